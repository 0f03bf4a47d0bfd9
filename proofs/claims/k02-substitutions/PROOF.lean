import PyProof.Rows.All
import Wide.All
import OpenK.AllK
import Wide.FinOn
import PyProof.P3In
import HandS.Base
import HandS.Call
import HandS.List
import HandS.Comp
import HandS.Dict
import HandS.Iter
import HandS.Text
import HandS.Exc
import HandS.TryMany
import HandS.ExcOwn
import HandS.Words
import HandS.WordsExc
import HandS.Defaults
import HandS.IsInst
import HandS.Walk
import HandS.Zip
import HandS.TupLen
import HandS.TupAny
import HandS.TupLe
import HandS.SortOrd
import HandS.Set
import HandS.SetKeys
import HandS.Strs
import HandS.Flow
import HandS.Style
import PyProof.Rows.SortStr
import KE.GoesMore
import KE.GoesEnum
import HandS.SortRule
import HandS.SetFor
import KE.KDictPairs
import HandS.DictTup
import PyProof.ExcBaseAll.ValueError
import KE.KStateDown
import HandS.Ends
import HandS.More
import HandS.Head0
import HandS.Head1
import HandS.Head2
import HandS.HeadEnd
import HandS.HeadHook1
import HandS.HeadHook2
import HandS.HeadHook4
import PySem.Challenge.RW_rulesmeet_k02_substitutions
set_option Elab.async false
set_option linter.all false
set_option maxRecDepth 100000
set_option maxHeartbeats 0
/-! Ev1: data, the store, how both lie in the abstract heap -/
namespace Ev
open PySem PySem.Spec PyProof.Rows L2

abbrev D := PyData
/-- an object that may change: a list, a dict -/
inductive Ob where
  | lst (xs : List D)
  | dic (kvs : List (D × D))
  /-- its keys are tuples; a walked one is locked -/
  | dit (l : Bool) (kvs : List (D × D))
/-- what an expression gives: a datum; an object of the store; a new object that none else holds; a new set of texts -/
inductive R where
  | d (x : D)
  | o (i : Nat)
  | f (b : Ob)

def okS (x : Str) : Bool := PyData.strOk x && decide (x.length ≤ 1000)

/-- a list of the module's own -/
def KL (K : PySem.W.Frag) (a : Addr) (xs : List V) : Prop :=
  ∃ (o : Obj) (its : Array Value) (n : Nat), K.lookup a = some o ∧ o.cls = .type "list" ∧ o.dict = none ∧ o.data = .seq its n ∧ its.size ≤ sizeLine ∧ Vals xs its.toList
/-- a list that stays as it is: fz tells which of the heap's lists do -/
def Lz (K : PySem.W.Frag) (H : Hp) (fz : Addr → Prop) (a : Addr) (xs : List V) : Prop := (fz a ∧ Rd H a (.lst xs)) ∨ KL K a xs

/-- a tuple of two -/
def isPair2 : D → Bool
  | .tuple [_, _] => true
  | _ => false
/-- its items are tuples of two: dict() may take it -/
def subLike (ds : List D) : Bool := ds.all isPair2
/-- two that make no such tuple -/
def prOk (x y : D) : Bool := !(isPair2 x && isPair2 y)
/-- a tuple of the heap; of one that dict() may take it is known that it has no __dict__ -/
def TupAt (H : Hp) (a : Addr) (xs : List V) (ds : List D) : Prop := (subLike ds = false ∧ H a = some (.tup xs)) ∨ (subLike ds = true ∧ ∃ o, o.dict = none ∧ H a = some (.frz o (.tup xs)))
mutual
/-- a value stands for a datum -/
inductive Rp (K : PySem.W.Frag) (H : Hp) (fz : Addr → Prop) : V → D → Prop
  | non : Rp K H fz .non .none
  | bl (b : Bool) : Rp K H fz (.bl b) (.bool b)
  | int (i : Int) : Rp K H fz (.int i) (.int i)
  | str (x : Str) : okS x = true → Rp K H fz (.str x) (.str x)
  | lst {a : Addr} {xs : List V} {ds : List D} : Lz K H fz a xs → xs.length ≤ sizeLine → Rps K H fz xs ds → Rp K H fz (.ref a) (.list ds)
  | tup {a : Addr} {xs : List V} {ds : List D} : TupAt H a xs ds → xs.length ≤ sizeLine → Rps K H fz xs ds → Rp K H fz (.ref a) (.tuple ds)
inductive Rps (K : PySem.W.Frag) (H : Hp) (fz : Addr → Prop) : List V → List D → Prop
  | nil : Rps K H fz [] []
  | cons {v : V} {vs : List V} {d : D} {ds : List D} : Rp K H fz v d → Rps K H fz vs ds → Rps K H fz (v :: vs) (d :: ds)
end
section
variable {K : PySem.W.Frag} {H H' H1 H2 H3 : Hp} {fz fz' fz1 fz2 fz3 : Addr → Prop} {al : List Addr}

/-- what is known of data stays known -/
structure Kp (H : Hp) (fz : Addr → Prop) (H' : Hp) (fz' : Addr → Prop) : Prop where
  tup : ∀ a xs, H a = some (.tup xs) → H' a = some (.tup xs)
  sub : ∀ a, fz a → fz' a
  lst : ∀ a xs, fz a → Rd H a (.lst xs) → Rd H' a (.lst xs)
  frt : ∀ a o xs, H a = some (.frz o (.tup xs)) → H' a = some (.frz o (.tup xs))
theorem TupAt.kp (k : Kp H fz H' fz') {a : Addr} {xs : List V} {ds : List D} (h : TupAt H a xs ds) : TupAt H' a xs ds := by
  rcases h with ⟨h1, h2⟩ | ⟨h1, o, h2, h3⟩
  · exact .inl ⟨h1, k.tup _ _ h2⟩
  · exact .inr ⟨h1, o, h2, k.frt _ _ _ h3⟩
theorem TupAt.rd {a : Addr} {xs : List V} {ds : List D} (h : TupAt H a xs ds) : Rd H a (.tup xs) := by
  rcases h with ⟨_, h2⟩ | ⟨_, o, _, h3⟩
  · exact .inl h2
  · exact .inr ⟨o, h3⟩
theorem Lz.kp (k : Kp H fz H' fz') {a : Addr} {xs : List V} (h : Lz K H fz a xs) : Lz K H' fz' a xs := by
  rcases h with ⟨h1, h2⟩ | h
  · exact .inl ⟨k.sub a h1, k.lst a xs h1 h2⟩
  · exact .inr h
theorem Lz.sq {a : Addr} {xs : List V} (h : Lz K H fz a xs) : SqL K H a xs := by
  rcases h with ⟨_, h2⟩ | h
  · exact .inl h2
  · exact .inr h
mutual
theorem Rp.kp (k : Kp H fz H' fz') : ∀ {v : V} {d : D}, Rp K H fz v d → Rp K H' fz' v d
  | _, _, .non => .non
  | _, _, .bl b => .bl b
  | _, _, .int i => .int i
  | _, _, .str x h => .str x h
  | _, _, .lst h1 h2 h3 => .lst (h1.kp k) h2 (Rps.kp k h3)
  | _, _, .tup h1 h2 h3 => .tup (h1.kp k) h2 (Rps.kp k h3)
theorem Rps.kp (k : Kp H fz H' fz') : ∀ {vs : List V} {ds : List D}, Rps K H fz vs ds → Rps K H' fz' vs ds
  | _, _, .nil => .nil
  | _, _, .cons h1 h2 => .cons (Rp.kp k h1) (Rps.kp k h2)
end
mutual
theorem Rp.dp : ∀ {v : V} {d : D}, Rp K H fz v d → Dp K H v d
  | _, _, .non => .non
  | _, _, .bl b => .bl b
  | _, _, .int i => .int i
  | _, _, .str x h => .str x
  | _, _, .lst h1 h2 h3 => .lst h1.sq (Rps.dp h3)
  | _, _, .tup h1 h2 h3 => .tup (.inl h1.rd) (Rps.dp h3)
theorem Rps.dp : ∀ {vs : List V} {ds : List D}, Rps K H fz vs ds → DpAll K H vs ds
  | _, _, .nil => .nil
  | _, _, .cons h1 h2 => .cons (Rp.dp h1) (Rps.dp h2)
end
mutual
theorem Rp.lay : ∀ {v : V} {d : D}, Rp K H fz v d → PyData.canLay0 d = true
  | _, _, .non => rfl
  | _, _, .bl b => rfl
  | _, _, .int i => rfl
  | _, _, .str x h => (Bool.and_eq_true_iff.mp h).1
  | _, _, .lst h1 h2 h3 => by
    rw [PyData.canLay0]
    exact Rps.lay h3
  | _, _, .tup h1 h2 h3 => by
    rw [PyData.canLay0]
    exact Rps.lay h3
theorem Rps.lay : ∀ {vs : List V} {ds : List D}, Rps K H fz vs ds → PyData.canLayAll0 ds = true
  | _, _, .nil => rfl
  | _, _, .cons h1 h2 => by
    rw [PyData.canLayAll0, Rp.lay h1, Rps.lay h2]
    rfl
end
theorem Rps.len : ∀ {vs : List V} {ds : List D}, Rps K H fz vs ds → vs.length = ds.length
  | _, _, .nil => rfl
  | _, _, .cons h1 h2 => congrArg Nat.succ (Rps.len h2)
theorem Rps.at : ∀ {vs : List V} {ds : List D} {i : Nat} {d : D}, Rps K H fz vs ds → ds[i]? = some d → ∃ v, vs[i]? = some v ∧ Rp K H fz v d
  | _, _, _, _, .nil, h => by simp at h
  | _, _, 0, _, .cons h1 h2, h => by
    simp at h
    subst h
    exact ⟨_, rfl, h1⟩
  | _, _, i + 1, _, .cons h1 h2, h => by
    obtain ⟨v, e, r⟩ := Rps.at (i := i) h2 (by simpa using h)
    exact ⟨v, by simpa using e, r⟩
theorem Rps.at' : ∀ {vs : List V} {ds : List D} {i : Nat} {v : V}, Rps K H fz vs ds → vs[i]? = some v → ∃ d, ds[i]? = some d ∧ Rp K H fz v d
  | _, _, _, _, .nil, h => by simp at h
  | _, _, 0, _, .cons h1 h2, h => by
    simp at h
    subst h
    exact ⟨_, rfl, h1⟩
  | _, _, i + 1, _, .cons h1 h2, h => by
    obtain ⟨d, e, r⟩ := Rps.at' (i := i) h2 (by simpa using h)
    exact ⟨d, by simpa using e, r⟩
theorem Rps.append : ∀ {vs ws : List V} {ds es : List D}, Rps K H fz vs ds → Rps K H fz ws es → Rps K H fz (vs ++ ws) (ds ++ es)
  | _, _, _, _, .nil, h => h
  | _, _, _, _, .cons h1 h2, h => .cons h1 (Rps.append h2 h)
theorem Rps.take : ∀ {vs : List V} {ds : List D} (n : Nat), Rps K H fz vs ds → Rps K H fz (vs.take n) (ds.take n)
  | _, _, 0, _ => .nil
  | _, _, _ + 1, .nil => .nil
  | _, _, n + 1, .cons h1 h2 => .cons h1 (Rps.take n h2)
theorem Rps.drop : ∀ {vs : List V} {ds : List D} (n : Nat), Rps K H fz vs ds → Rps K H fz (vs.drop n) (ds.drop n)
  | _, _, 0, h => h
  | _, _, _ + 1, .nil => .nil
  | _, _, n + 1, .cons h1 h2 => Rps.drop n h2
theorem Rps.set {v : V} {d : D} (h : Rp K H fz v d) : ∀ {vs : List V} {ds : List D} (n : Nat), Rps K H fz vs ds → Rps K H fz (vs.set n v) (ds.set n d)
  | _, _, _, .nil => .nil
  | _, _, 0, .cons h1 h2 => .cons h h2
  | _, _, n + 1, .cons h1 h2 => .cons h1 (Rps.set h n h2)
theorem Rps.erase : ∀ {vs : List V} {ds : List D} (n : Nat), Rps K H fz vs ds → Rps K H fz (vs.eraseIdx n) (ds.eraseIdx n)
  | _, _, _, .nil => .nil
  | _, _, 0, .cons h1 h2 => h2
  | _, _, n + 1, .cons h1 h2 => .cons h1 (Rps.erase n h2)

/-- a key of a dict -/
def keyD : D → Option Key
  | .str x => some (.inr x)
  | .int i => some (.inl i)
  | _ => none
/-- a pair of a dict -/
def PairK (K : PySem.W.Frag) (H : Hp) (fz : Addr → Prop) (p : Key × V) (q : D × D) : Prop := keyD q.1 = some p.1 ∧ Rp K H fz (kV p.1) q.1 ∧ Rp K H fz p.2 q.2
/-- a key that is a tuple -/
def keyTs : List D → Option (List Key)
  | [] => some []
  | d :: ds => match keyD d, keyTs ds with
    | some k, some ks => some (k :: ks)
    | _, _ => none
def keyT : D → Option (List Key)
  | .tuple (d :: ds) => keyTs (d :: ds)
  | _ => none
/-- how long a key is -/
def KeyLen (ks : List Key) : Prop := ks.length ≤ sizeLine ∧ ks ≠ []
/-- a pair of a dict with tuple keys -/
def PairT (K : PySem.W.Frag) (H : Hp) (fz : Addr → Prop) (p : List Key × V) (q : D × D) : Prop := ∃ ds, q.1 = .tuple ds ∧ keyTs ds = some p.1 ∧ KeyLen p.1 ∧ Rps K H fz (p.1.map kV) ds ∧ Rp K H fz p.2 q.2
/-- an object of the heap stands for an object of the store -/
def Ro (K : PySem.W.Frag) (H : Hp) (fz : Addr → Prop) (a : Addr) : Ob → Prop
  | .lst ds => ∃ xs, H a = some (.lst xs) ∧ xs.length ≤ sizeLine ∧ Rps K H fz xs ds
  | .dic kvs => ∃ ks, H a = some (.dK ks) ∧ ks.length ≤ sizeLine ∧ Paired (PairK K H fz) ks kvs
  | .dit false kvs => ∃ ks, H a = some (.dT ks) ∧ ks.length ≤ sizeLine ∧ Paired (PairT K H fz) ks kvs
  | .dit true kvs => ∃ ks, (∃ o, H a = some (.frz o (.dT ks))) ∧ ks.length ≤ sizeLine ∧ Paired (PairT K H fz) ks kvs
theorem paired_map {α β : Type} {F G : α → β → Prop} (h : ∀ a b, F a b → G a b) : ∀ {l : List α} {m : List β}, Paired F l m → Paired G l m
  | _, _, .nil => .nil
  | _, _, .cons r t => .cons (h _ _ r) (paired_map h t)
theorem paired_len {α β : Type} {F : α → β → Prop} : ∀ {l : List α} {m : List β}, Paired F l m → l.length = m.length
  | _, _, .nil => rfl
  | _, _, .cons r t => congrArg Nat.succ (paired_len t)
theorem paired_at {α β : Type} {F : α → β → Prop} : ∀ {l : List α} {m : List β} {i : Nat} {b : β}, Paired F l m → m[i]? = some b → ∃ a, l[i]? = some a ∧ F a b
  | _, _, _, _, .nil, h => by simp at h
  | _, _, 0, _, .cons r t, h => by
    simp at h
    subst h
    exact ⟨_, rfl, r⟩
  | _, _, i + 1, _, .cons r t, h => by
    obtain ⟨a, e, q⟩ := paired_at (i := i) t (by simpa using h)
    exact ⟨a, by simpa using e, q⟩
theorem paired_at' {α β : Type} {F : α → β → Prop} : ∀ {l : List α} {m : List β} {i : Nat} {a : α}, Paired F l m → l[i]? = some a → ∃ b, m[i]? = some b ∧ F a b
  | _, _, _, _, .nil, h => by simp at h
  | _, _, 0, _, .cons r t, h => by
    simp at h
    subst h
    exact ⟨_, rfl, r⟩
  | _, _, i + 1, _, .cons r t, h => by
    obtain ⟨a, e, q⟩ := paired_at' (i := i) t (by simpa using h)
    exact ⟨a, by simpa using e, q⟩
theorem paired_set {α β : Type} {F : α → β → Prop} {x : α} {y : β} (h : F x y) : ∀ {l : List α} {m : List β} (n : Nat), Paired F l m → Paired F (l.set n x) (m.set n y)
  | _, _, _, .nil => .nil
  | _, _, 0, .cons r t => .cons h t
  | _, _, n + 1, .cons r t => .cons r (paired_set h n t)
theorem paired_app {α β : Type} {F : α → β → Prop} : ∀ {l l' : List α} {m m' : List β}, Paired F l m → Paired F l' m' → Paired F (l ++ l') (m ++ m')
  | _, _, _, _, .nil, h => h
  | _, _, _, _, .cons r t, h => .cons r (paired_app t h)
theorem paired_take {α β : Type} {F : α → β → Prop} : ∀ {l : List α} {m : List β} (n : Nat), Paired F l m → Paired F (l.take n) (m.take n)
  | _, _, 0, _ => .nil
  | _, _, _ + 1, .nil => .nil
  | _, _, n + 1, .cons r t => .cons r (paired_take n t)
theorem PairK.kp (k : Kp H fz H' fz') {p : Key × V} {q : D × D} (h : PairK K H fz p q) : PairK K H' fz' p q := ⟨h.1, h.2.1.kp k, h.2.2.kp k⟩
theorem PairT.kp (k : Kp H fz H' fz') {p : List Key × V} {q : D × D} (h : PairT K H fz p q) : PairT K H' fz' p q := by
  obtain ⟨ds, h1, h2, h3, h4, h5⟩ := h
  exact ⟨ds, h1, h2, h3, h4.kp k, h5.kp k⟩
/-- the same object, what it holds still known -/
theorem Ro.kp (k : Kp H fz H' fz') {a : Addr} (e : H' a = H a) : ∀ {b : Ob}, Ro K H fz a b → Ro K H' fz' a b
  | .lst ds, ⟨xs, h1, h2, h3⟩ => ⟨xs, e.trans h1, h2, h3.kp k⟩
  | .dic kvs, ⟨ks, h1, h2, h3⟩ => ⟨ks, e.trans h1, h2, paired_map (fun _ _ h => h.kp k) h3⟩
  | .dit false kvs, ⟨ks, h1, h2, h3⟩ => ⟨ks, e.trans h1, h2, paired_map (fun _ _ h => h.kp k) h3⟩
  | .dit true kvs, ⟨ks, ⟨o, h1⟩, h2, h3⟩ => ⟨ks, ⟨o, e.trans h1⟩, h2, paired_map (fun _ _ h => h.kp k) h3⟩
theorem Ro.some {a : Addr} : ∀ {b : Ob}, Ro K H fz a b → H a ≠ none
  | .lst ds, ⟨xs, h1, _⟩, e => by
    rw [h1] at e
    cases e
  | .dic kvs, ⟨ks, h1, _⟩, e => by
    rw [h1] at e
    cases e
  | .dit false kvs, ⟨ks, h1, _⟩, e => by
    rw [h1] at e
    cases e
  | .dit true kvs, ⟨ks, ⟨o, h1⟩, _⟩, e => by
    rw [h1] at e
    cases e
theorem Ro.notup {a : Addr} {xs : List V} : ∀ {b : Ob}, Ro K H fz a b → H a ≠ Option.some (.tup xs)
  | .lst ds, ⟨xs, h1, _⟩, e => by
    rw [h1] at e
    cases e
  | .dic kvs, ⟨ks, h1, _⟩, e => by
    rw [h1] at e
    cases e
  | .dit false kvs, ⟨ks, h1, _⟩, e => by
    rw [h1] at e
    cases e
  | .dit true kvs, ⟨ks, ⟨o, h1⟩, _⟩, e => by
    rw [h1] at e
    cases e

theorem Ro.nofrt {a : Addr} {xs : List V} {q : Obj} : ∀ {b : Ob}, Ro K H fz a b → H a ≠ Option.some (.frz q (.tup xs))
  | .lst ds, ⟨xs, h1, _⟩, e => by
    rw [h1] at e
    cases e
  | .dic kvs, ⟨ks, h1, _⟩, e => by
    rw [h1] at e
    cases e
  | .dit false kvs, ⟨ks, h1, _⟩, e => by
    rw [h1] at e
    cases e
  | .dit true kvs, ⟨ks, ⟨o, h1⟩, _⟩, e => by
    rw [h1] at e
    cases e
/-- a key's items are no tuples -/
theorem keyTs_sub {ds : List D} {p : List Key} (h : keyTs ds = some p) (n : p ≠ []) : subLike ds = false := by
  cases ds with
  | nil => cases h; exact absurd rfl n
  | cons d ds =>
    have : isPair2 d = false := by
      cases d with
      | tuple xs => simp [keyTs, keyD] at h
      | _ => rfl
    simp [subLike, this]

/-- the store's objects stand at al -/
structure Ok (K : PySem.W.Frag) (al : List Addr) (fz : Addr → Prop) (st : List Ob) (H : Hp) : Prop where
  nd : al.Nodup
  obs : Paired (Ro K H fz) al st
  dis : ∀ a ∈ al, ¬ fz a
  trk : ∀ a, fz a → ∃ xs, Rd H a (.lst xs)

/-- how a heap goes on: what is not of the store stays, new lists may be fixed -/
structure Go (al : List Addr) (fz : Addr → Prop) (H : Hp) (fz' : Addr → Prop) (H' : Hp) : Prop where
  keep : ∀ a o, H a = some o → a ∉ al → H' a = some o
  there : ∀ a, H a ≠ none → H' a ≠ none
  sub : ∀ a, fz a → fz' a
  new : ∀ a, fz' a → fz a ∨ H a = none
  lk : ∀ a o u, H a = some (.frz o u) → H' a = some (.frz o u)
theorem Go.refl : Go al fz H fz H := ⟨fun _ _ h _ => h, fun _ h => h, fun _ h => h, fun _ h => .inl h, fun _ _ _ h => h⟩
theorem Go.trans (g : Go al fz H fz1 H1) (g' : Go al fz1 H1 fz2 H2) : Go al fz H fz2 H2 :=
  ⟨fun a o h n => g'.keep a o (g.keep a o h n) n, fun a h => g'.there a (g.there a h), fun a h => g'.sub a (g.sub a h), fun a h => by
    rcases g'.new a h with h | h
    · exact g.new a h
    · exact .inr (by
        cases e : H a with
        | none => rfl
        | some o => exact absurd h (g.there a (by rw [e]; simp))), fun a o u h => g'.lk a o u (g.lk a o u h)⟩
theorem Go.back (g : Go al fz H fz1 H1) {a : Addr} (h : H1 a = none) : H a = none := by
  cases e : H a with
  | none => rfl
  | some o => exact absurd h (g.there a (by rw [e]; simp))
theorem Rd.some {a : Addr} {u : HO} (h : Rd H a u) : ∃ o, H a = Option.some o ∧ (o = u ∨ ∃ b, o = .frz b u) := by
  rcases h with h | ⟨o, h⟩
  · exact ⟨_, h, .inl rfl⟩
  · exact ⟨_, h, .inr ⟨o, rfl⟩⟩
theorem Rd.of_eq {a : Addr} {u : HO} (h : Rd H a u) (k : ∀ o, H a = Option.some o → H' a = Option.some o) : Rd H' a u := by
  rcases h with h | ⟨o, h⟩
  · exact .inl (k _ h)
  · exact .inr ⟨o, k _ h⟩
theorem Ok.kp {st : List Ob} (ok : Ok K al fz st H) (g : Go al fz H fz' H') : Kp H fz H' fz' := by
  refine ⟨fun a xs h => g.keep a _ h fun m => ?_, g.sub, fun a xs h1 h2 => Rd.of_eq h2 fun o e => g.keep a o e fun m => ok.dis a m h1, fun a o xs h => g.lk a o _ h⟩
  obtain ⟨i, hi, e⟩ := List.mem_iff_getElem.mp m
  obtain ⟨b, _, r⟩ := paired_at' ok.obs (List.getElem?_eq_getElem hi)
  rw [e] at r
  exact r.notup h
end
end Ev

/-! Ev2: the small syntax and its evaluator -/
namespace Ev
open PySem

/-! ### the order of data -/
mutual
/-- the order of data: ints, texts, tuples of such; everything else behind, by kinds -/
def ltD : D → D → Bool
  | .int i, .int j => decide (i < j)
  | .str x, .str y => decide (x.cps.toList < y.cps.toList)
  | .tuple xs, .tuple ys => ltAll xs ys
  | _, _ => false
def ltAll : List D → List D → Bool
  | [], [] => false
  | [], _ :: _ => true
  | _ :: _, [] => false
  | x :: xs, y :: ys => if PyData.eqv x y then ltAll xs ys else ltD x y
end
mutual
/-- data that can be put in order -/
def cmpOk : D → D → Bool
  | .int _, .int _ => true
  | .str _, .str _ => true
  | .tuple xs, .tuple ys => cmpAll xs ys
  | _, _ => false
def cmpAll : List D → List D → Bool
  | [], _ => true
  | _ :: _, [] => true
  | x :: xs, y :: ys => cmpOk x y && cmpAll xs ys
end
def insD (x : D) : List D → List D
  | [] => [x]
  | y :: ys => if ltD y x then y :: insD x ys else x :: y :: ys
def sortD : List D → List D
  | [] => []
  | x :: xs => insD x (sortD xs)
/-- rows whose items can be put in order as far as they are looked at -/
def cmpLz : List D → List D → Bool
  | [], _ => true
  | _ :: _, [] => true
  | x :: xs, y :: ys => cmpOk x y && (!PyData.eqv x y || cmpLz xs ys)
def cmpPr : D → D → Bool
  | .tuple xs, .tuple ys => cmpLz xs ys
  | x, y => cmpOk x y
def pairsOk (xs : List D) : Bool := xs.all fun x => xs.all fun y => cmpPr x y
def dedup : List D → List D
  | [] => []
  | x :: xs => if xs.any (fun y => PyData.eqv y x) then dedup xs else x :: dedup xs
def isStr : D → Bool
  | .str _ => true
  | _ => false
def isBool : D → Bool
  | .bool _ => true
  | _ => false
def isInt : D → Bool
  | .int _ => true
  | _ => false
/-- a tuple with something in it -/
def isTup1 : D → Bool
  | .tuple (_ :: _) => true
  | _ => false
/-- what can be sorted -/
def sortOk (xs : List D) : Bool := pairsOk xs && decide (PyData.depthAll xs ≤ 150) && (xs.all isStr || xs.all isInt || xs.all isTup1)
def isTup : D → Bool
  | .tuple _ => true
  | _ => false
def theInt : D → Int
  | .int i => i
  | _ => 0
def theStr : D → Str
  | .str x => x
  | _ => Str.empty

/-! ### results -/
inductive Rs (α : Type) where
  | ok (a : α) (st : List Ob)
  | exc (c : Nat) (st : List Ob)
  | err
def Rs.bind {α β : Type} (r : Rs α) (k : α → List Ob → Rs β) : Rs β :=
  match r with
  | .ok a st => k a st
  | .exc c st => .exc c st
  | .err => .err
abbrev Envr := List (Option R)
inductive Fl where
  | next (env : Envr) (st : List Ob)
  | brk (env : Envr) (st : List Ob)
  | cont (env : Envr) (st : List Ob)
  | ret (r : R) (st : List Ob)
  | exc (c : Nat) (env : Envr) (st : List Ob)
  | err

/-! ### the syntax -/
inductive Ty where
  | tuple | list | str | int | bool
  deriving DecidableEq
inductive Cmp where
  | eq | ne | lt | le | gt | ge | isin | notin | isN | notN
  deriving DecidableEq
inductive Prim where
  | add | sub | mul | fdiv | mod | pow | neg
  | len | all | any | sum | tuple | list | int | str | sorted | sortset | max2 | min2 | maxl
  | isa (cs : List Ty)
  | join | append | extend | pop | idx | get | dictT
  deriving DecidableEq
inductive Tg where
  | name (i : Nat)
  | tup (is : List Nat)
  deriving DecidableEq
mutual
inductive E where
  | var (i : Nat)
  | dat (d : D)
  | tup (es : Es)
  | lst (es : Es)
  | dnew
  | andE (a b : E)
  | orE (a b : E)
  | notE (a : E)
  | cmp (o : Cmp) (a b : E)
  | chain (o o' : Cmp) (a b c : E)
  | ite (c a b : E)
  | prim (p : Prim) (es : Es)
  | meth (p : Prim) (a b : E)
  | slc (a : E) (lo hi : Oe)
  | call (f : Nat) (es : Es)
  | dnewT
  | get2 (a b c : E)
  | setd (a b c : E)
  | lock (v : Nat) (e : E)
  | comp (elt : E) (tg : Tg) (src : It) (c : Oe) (own : List Nat)
  | comp2 (elt : E) (tg : Tg) (src : It) (c : Oe) (tg' : Tg) (src' : It) (c' : Oe) (own own' : List Nat)
inductive Es where
  | nil
  | cons (e : E) (es : Es)
inductive Oe where
  | no
  | yes (e : E)
inductive It where
  | of (e : E)
  | range1 (e : E)
  | range2 (a b : E)
  | enum (e : E)
  | zip (a b : E)
  | dkeys (v : Nat)
  | ditems (v : Nat)
end
mutual
inductive S where
  | asg (i : Nat) (e : E)
  | par (is : List Nat) (es : Es)
  | tupa (is : List Nat) (e : E)
  | sub (o i v : E)
  | expr (e : E)
  | ret (e : E)
  | retN
  | ite (c : E) (a b : Ss)
  | for (tg : Tg) (src : It) (body : Ss)
  | while (c : E) (body : Ss)
  | raise (c : Nat)
  | try (n : Nat) (body : Ss) (hs : Hs)
  | pass
  | brk
  | cont
  | lock (v : Nat) (s : S)
inductive Ss where
  | nil
  | cons (s : S) (ss : Ss)
inductive Hs where
  | nil
  | cons (c : Nat) (cs : List Nat) (suite : Ss) (hs : Hs)
end

/-! ### what values are -/
/-- a datum that none changes -/
def toD : R → Option D
  | .d x => some x
  | .f (.lst xs) => some (.list xs)
  | _ => none
def toDs : List R → Option (List D)
  | [] => some []
  | r :: rs => match toD r, toDs rs with
    | some d, some ds => some (d :: ds)
    | _, _ => none
/-- as it is just now -/
def nowD (st : List Ob) : R → Option D
  | .d x => some x
  | .f (.lst xs) => some (.list xs)
  | .f (.dic _) => none
  | .f (.dit _ _) => none
  | .o i => match st[i]? with
    | some (.lst xs) => some (.list xs)
    | _ => none
/-- a list -/
def lstOf (st : List Ob) : R → Option (List D)
  | .d (.list xs) => some xs
  | .f (.lst xs) => some xs
  | .o i => match st[i]? with
    | some (.lst xs) => some xs
    | _ => none
  | _ => none
/-- a list or a tuple -/
def seqOf (st : List Ob) : R → Option (List D)
  | .d (.tuple xs) => some xs
  | r => lstOf st r
def dicOf (st : List Ob) : R → Option (List (D × D))
  | .f (.dic kvs) => some kvs
  | .o i => match st[i]? with
    | some (.dic kvs) => some kvs
    | _ => none
  | _ => none
/-- a dict with tuple keys -/
def ditOf (st : List Ob) : R → Option (List (D × D))
  | .f (.dit _ kvs) => some kvs
  | .o i => match st[i]? with
    | some (.dit _ kvs) => some kvs
    | _ => none
  | _ => none
/-- .. that is not walked -/
def ditFree (st : List Ob) : R → Option (List (D × D))
  | .f (.dit false kvs) => some kvs
  | .o i => match st[i]? with
    | some (.dit false kvs) => some kvs
    | _ => none
  | _ => none
def dget (kvs : List (D × D)) (k : D) : Option D := (kvs.find? fun p => PyData.eqv p.1 k).map (·.2)
def dput (kvs : List (D × D)) (k v : D) : List (D × D) := if kvs.any (fun p => PyData.eqv p.1 k) then kvs.map (fun p => if PyData.eqv p.1 k then (p.1, v) else p) else kvs ++ [(k, v)]
def signs (x : Str) : List D := x.cps.toList.map fun c => .str ⟨#[c]⟩
def cutL {α : Type} (xs : List α) (lo hi : Option Int) : List α := (xs.drop (HT.sIx xs.length 0 lo)).take (HT.sIx xs.length xs.length hi - HT.sIx xs.length 0 lo)
def isaD (st : List Ob) (r : R) (c : Ty) : Bool :=
  match r, c with
  | .d (.tuple _), .tuple => true
  | .d (.list _), .list => true
  | .d (.str _), .str => true
  | .d (.int _), .int => true
  | .d (.bool _), .int => true
  | .d (.bool _), .bool => true
  | .f (.lst _), .list => true
  | .o i, .list => match st[i]? with
    | some (.lst _) => true
    | _ => false
  | _, _ => false
def lenOf (st : List Ob) (r : R) : Option Nat :=
  match r with
  | .d (.str x) => some x.length
  | _ => match seqOf st r with
    | some xs => some xs.length
    | none => match dicOf st r with
      | some kvs => some kvs.length
      | none => (ditFree st r).map (·.length)

def bothD (st : List Ob) (x y : R) (k : D → D → Rs R) : Rs R := match nowD st x, nowD st y with
  | some a, some b => k a b
  | _, _ => .err
def okB (b : Bool) (st : List Ob) : Rs R := .ok (.d (.bool b)) st
def depthOk (a b : D) : Bool := decide (min a.depth b.depth ≤ 150)

def isNon : R → Bool
  | .d .none => true
  | _ => false
/-- in a dict with tuple keys -/
def inT (neg : Bool) (a : D) (y : R) (st : List Ob) : Rs R := match ditOf st y with
  | some kvs => if (keyT a).isSome then okB (neg != (dget kvs a).isSome) st else .err
  | none => .err
def cmpF (o : Cmp) (x y : R) (st : List Ob) : Rs R :=
  match o with
  | .eq => bothD st x y fun a b => if depthOk a b then okB (PyData.eqv a b) st else .err
  | .ne => bothD st x y fun a b => if depthOk a b then okB (!PyData.eqv a b) st else .err
  | .isN => okB (isNon x) st
  | .notN => okB (!isNon x) st
  | .lt => match x, y with
    | .d a, .d b => if cmpOk a b && depthOk a b then okB (ltD a b) st else .err
    | _, _ => .err
  | .le => match x, y with
    | .d (.int a), .d (.int b) => okB (decide (a ≤ b)) st
    | _, _ => .err
  | .gt => match x, y with
    | .d (.int a), .d (.int b) => okB (decide (b < a)) st
    | _, _ => .err
  | .ge => match x, y with
    | .d (.int a), .d (.int b) => okB (decide (b ≤ a)) st
    | _, _ => .err
  | .isin => inF false
  | .notin => inF true
where
  inF (neg : Bool) : Rs R := match x with
    | .d a => match dicOf st y with
      | some kvs => if (keyD a).isSome then okB (neg != (dget kvs a).isSome) st else .err
      | none => match seqOf st y with
        | some xs => if depthOk a (.list xs) then okB (neg != xs.any fun z => PyData.eqv z a) st else .err
        | none => match a, y with
          | .str c, .d (.str z) => if c.length = 1 then okB (neg != decide (c.cps.toList.headD 0 ∈ z.cps.toList)) st else .err
          | a, y => inT neg a y st
    | _ => .err

def catL (x y : R) (st : List Ob) : Rs R := match lstOf st x, lstOf st y with
  | some a, some b => if a.length + b.length ≤ 1000000 then .ok (.f (.lst (a ++ b))) st else .err
  | _, _ => .err
def addF (x y : R) (st : List Ob) : Rs R := match x with
  | .d (.int a) => match y with
    | .d (.int b) => .ok (.d (.int (a + b))) st
    | _ => .err
  | .d (.str a) => match y with
    | .d (.str b) => if okS (a ++ b) then .ok (.d (.str (a ++ b))) st else .err
    | _ => .err
  | .d (.tuple a) => match y with
    | .d (.tuple b) => if a.length + b.length ≤ 1000000 then .ok (.d (.tuple (a ++ b))) st else .err
    | _ => .err
  | x => catL x y st
def mulF (x y : R) (st : List Ob) : Rs R := match y with
  | .d (.int b) => match x with
    | .d (.int a) => if (-(2 ^ 64) < a ∧ a < 2 ^ 64) ∨ (-(2 ^ 64) < b ∧ b < 2 ^ 64) then .ok (.d (.int (a * b))) st else .err
    | .f (.lst xs) => if 0 ≤ b ∧ b ≤ 1000 ∧ xs.length ≤ 1000 then .ok (.f (.lst (List.replicate b.toNat xs).flatten)) st else .err
    | _ => .err
  | _ => .err
/-- two ints -/
def intF (x y : R) (k : Int → Int → Rs R) : Rs R := match x, y with
  | .d (.int a), .d (.int b) => k a b
  | _, _ => .err
def newL (x : R) (k : List D → Rs R) : Rs R := match x with
  | .f (.lst xs) => k xs
  | _ => .err
def joinF (z x : R) (st : List Ob) : Rs R := match z with
  | .d (.str z) => match lstOf st x with
    | some xs => if z.length = 0 ∧ xs.all isStr ∧ xs.length ≤ 100 ∧ okS ⟨((xs.map fun x => (theStr x).cps.toList).flatten).toArray⟩ then .ok (.d (.str ⟨((xs.map fun x => (theStr x).cps.toList).flatten).toArray⟩)) st else .err
    | none => .err
  | _ => .err
/-- a list of the store -/
def objL (x : R) (st : List Ob) (k : Nat → List D → Rs R) : Rs R := match x with
  | .o i => match st[i]? with
    | some (.lst xs) => k i xs
    | _ => .err
  | _ => .err
def appF (x y : R) (st : List Ob) : Rs R := objL x st fun i xs => match toD y with
  | some d => if xs.length < 1000000 then .ok (.d .none) (st.set i (.lst (xs ++ [d]))) else .err
  | none => .err
def extF (x y : R) (st : List Ob) : Rs R := objL x st fun i xs => newL y fun ys => if xs.length + ys.length ≤ 1000000 then .ok (.d .none) (st.set i (.lst (xs ++ ys))) else .err
def popF (x y : R) (st : List Ob) : Rs R := objL x st fun i xs => match y with
  | .d (.int k) => match xs[k.toNat]? with
    | some d => if 0 ≤ k then .ok (.d d) (st.set i (.lst (xs.eraseIdx k.toNat))) else .err
    | none => .err
  | _ => .err
def idxS (x : R) (i : Int) (st : List Ob) : Rs R := match x with
  | .d (.str z) => match L2.atI (signs z) i with
    | some d => .ok (.d d) st
    | none => .err
  | x => match seqOf st x with
    | some xs => match L2.atI xs i with
      | some d => .ok (.d d) st
      | none => .err
    | none => .err
/-- d[k], the keys tuples -/
def idxT (x : R) (k : D) (st : List Ob) : Rs R := match ditOf st x with
  | some kvs => if (keyT k).isSome then (match dget kvs k with
    | some d => .ok (.d d) st
    | none => .err) else .err
  | none => .err
def idxF (x y : R) (st : List Ob) : Rs R := match y with
  | .d k => match dicOf st x with
    | some kvs => if (keyD k).isSome then (match dget kvs k with
      | some d => .ok (.d d) st
      | none => .err) else .err
    | none => match k with
      | .int i => idxS x i st
      | k => idxT x k st
  | _ => .err
def isDict (x : R) (st : List Ob) : Bool := (dicOf st x).isSome || (ditOf st x).isSome
/-- d.get(k, z) -/
def get2F (x y z : R) (st : List Ob) : Rs R := match y, z with
  | .d k, .d e => match dicOf st x with
    | some kvs => if (keyD k).isSome then .ok (.d ((dget kvs k).getD e)) st else .err
    | none => match ditOf st x with
      | some kvs => if (keyT k).isSome then .ok (.d ((dget kvs k).getD e)) st else .err
      | none => .err
  | _, _ => .err
/-- d.setdefault(k, z), the keys tuples -/
def setdF (x y z : R) (st : List Ob) : Rs R := match x, y, z with
  | .o i, .d k, .d e => match st[i]? with
    | some (.dit false kvs) => if (keyT k).isSome ∧ kvs.length < 1000000 then (match dget kvs k with
      | some d => .ok (.d d) st
      | none => .ok (.d e) (st.set i (.dit false (dput kvs k e)))) else .err
    | _ => .err
  | _, _, _ => .err
/-- the pairs of a list -/
def pairsT : List D → Option (List (D × D))
  | [] => some []
  | .tuple [k, d] :: ds => match keyT k, pairsT ds with
    | some _, some r => some ((k, d) :: r)
    | _, _ => none
  | _ => none
def mergeD (kvs more : List (D × D)) : List (D × D) := more.foldl (fun acc p => dput acc p.1 p.2) kvs
/-- no two of them make a tuple of pairs -/
def zipOk (xs ys : List D) : Bool := (xs.zipWith prOk ys).all id
/-- dict(pairs), the keys tuples -/
def dictF (x : R) (st : List Ob) : Rs R := match seqOf st x with
  | some xs => match pairsT xs with
    | some ps => if xs.length ≤ 1000000 then .ok (.f (.dit false (mergeD [] ps))) st else .err
    | none => .err
  | none => .err
/-- a dict is locked while it is walked -/
def lockO (env : Envr) (v : Nat) (st : List Ob) : Option (Nat × List (D × D)) := match env[v]? with
  | some (some (.o i)) => match st[i]? with
    | some (.dit false kvs) => some (i, kvs)
    | _ => none
  | _ => none
def unE (i : Nat) (kvs : List (D × D)) : Rs R → Rs R
  | .ok r st => match st[i]? with
    | some (.dit true kvs') => .ok r (st.set i (.dit false kvs'))
    | _ => .err
  | _ => .err
def unS (i : Nat) (kvs : List (D × D)) : Fl → Fl
  | .next env st => match st[i]? with
    | some (.dit true kvs') => .next env (st.set i (.dit false kvs'))
    | _ => .err
  | .ret r st => match st[i]? with
    | some (.dit true kvs') => .ret r (st.set i (.dit false kvs'))
    | _ => .err
  | _ => .err
/-- a dict that is walked just now -/
def lockd (st : List Ob) : R → Bool
  | .o i => match st[i]? with
    | some (.dit true _) => true
    | _ => false
  | .f (.dit true _) => true
  | _ => false
@[simp] theorem lockd_d (st : List Ob) (x : D) : lockd st (.d x) = false := rfl
@[simp] theorem lockd_f (st : List Ob) (xs : List D) : lockd st (.f (.lst xs)) = false := rfl
def primF (p : Prim) (rs : List R) (st : List Ob) : Rs R :=
  match rs with
  | [x] => match p with
    | .neg => (match x with
      | .d (.int a) => .ok (.d (.int (-a))) st
      | _ => .err)
    | .len => match lenOf st x with
      | some n => .ok (.d (.int n)) st
      | none => .err
    | .all => newL x fun xs => if xs.all isBool then okB (xs.all fun x => PyData.eqv x (.bool true)) st else .err
    | .any => newL x fun xs => if xs.all isBool then okB (xs.any fun x => PyData.eqv x (.bool true)) st else .err
    | .sum => newL x fun xs => if xs.all isInt then .ok (.d (.int (xs.map theInt).sum)) st else .err
    | .tuple => match seqOf st x with
      | some xs => .ok (.d (.tuple xs)) st
      | none => .err
    | .list => match seqOf st x with
      | some xs => .ok (.f (.lst xs)) st
      | none => .err
    | .int => (match x with
      | .d (.int a) => .ok (.d (.int a)) st
      | _ => .err)
    | .str => (match x with
      | .d (.int a) => if a.natAbs < 1000000 ∧ okS (Str.ofString (toString a)) then .ok (.d (.str (Str.ofString (toString a)))) st else .err
      | _ => .err)
    | .sorted => match lstOf st x with
      | some xs => if sortOk xs then .ok (.f (.lst (sortD xs))) st else .err
      | none => .err
    | .sortset => newL x fun xs => if xs.all isStr && decide (xs.length ≤ 60) then .ok (.f (.lst (sortD (dedup xs)))) st else .err
    | .dictT => dictF x st
    | .isa cs => if lockd st x then .err else okB (cs.any fun c => isaD st x c) st
    | _ => .err
  | [x, y] => match p with
    | .add => addF x y st
    | .sub => intF x y fun a b => .ok (.d (.int (a - b))) st
    | .mul => mulF x y st
    | .fdiv => intF x y fun a b => if b ≠ 0 ∧ b.natAbs < 1073741824 then .ok (.d (.int (a.fdiv b))) st else .err
    | .mod => intF x y fun a b => if b ≠ 0 then .ok (.d (.int (a.fmod b))) st else .err
    | .pow => intF x y fun a b => if 0 ≤ b ∧ b ≤ 1000000 ∧ a.natAbs < 2 ^ 64 then .ok (.d (.int (a ^ b.toNat))) st else .err
    | .max2 => intF x y fun a b => .ok (.d (.int (if b > a then b else a))) st
    | .min2 => intF x y fun a b => .ok (.d (.int (if b < a then b else a))) st
    | .join => joinF x y st
    | .append => appF x y st
    | .extend => extF x y st
    | .pop => popF x y st
    | .idx => idxF x y st
    | _ => .err
  | _ => .err

/-- a list of the store -/
def isObjL (st : List Ob) (i : Nat) : Bool := match st[i]? with
  | some (.lst _) => true
  | _ => false
/-- what a method is called of -/
def methOk (p : Prim) (x : R) (st : List Ob) : Bool := match x with
  | .d (.str _) => p = .join
  | .o i => p ≠ .join && isObjL st i
  | _ => false
def mtT (p : Prim) : String := if p = .join then "str" else "list"
def slcF (x : R) (lo hi : Option Int) (st : List Ob) : Rs R :=
  match x with
  | .d (.str z) => .ok (.d (.str ⟨(cutL z.cps.toList lo hi).toArray⟩)) st
  | .d (.tuple xs) => .ok (.d (.tuple (cutL xs lo hi))) st
  | _ => match lstOf st x with
    | some xs => .ok (.f (.lst (cutL xs lo hi))) st
    | none => .err

def setAll : List Nat → List D → Envr → Envr
  | i :: is, d :: ds, env => setAll is ds (env.set i (some (.d d)))
  | _, _, env => env
def bindT (tg : Tg) (x : D) (env : Envr) : Option Envr :=
  match tg with
  | .name i => some (env.set i (some (.d x)))
  | .tup is => match x with
    | .tuple ds => if ds.length = is.length then some (setAll is ds env) else none
    | _ => none
def wipeE (env : Envr) : List Nat → Envr
  | [] => env
  | v :: vs => (wipeE env vs).set v none
/-- an object stands in a name -/
def alloc (r : R) (st : List Ob) : R × List Ob :=
  match r with
  | .f b => (.o st.length, st ++ [b])
  | r => (r, st)
def allocs : List R → List Ob → List R × List Ob
  | [], st => ([], st)
  | r :: rs, st => ((alloc r st).1 :: (allocs rs (alloc r st).2).1, (allocs rs (alloc r st).2).2)
/-- the walked object is as it was -/
def same (g : Option Nat) (st st' : List Ob) : Prop := ∀ i, g = some i → st'[i]? = st[i]?
open Classical in
/-- [f x for x in items] -/
noncomputable def compL (f : D → List Ob → Rs (List D)) (g : Option Nat) : List D → List Ob → Rs (List D)
  | [], st => .ok [] st
  | x :: xs, st => match f x st with
    | .ok ys st' => if same g st st' then (match compL f g xs st' with
      | .ok zs st'' => .ok (ys ++ zs) st''
      | _ => .err) else .err
    | _ => .err
open Classical in
noncomputable def loopS (body : D → Envr → List Ob → Fl) (g : Option Nat) : List D → Envr → List Ob → Fl
  | [], env, st => .next env st
  | x :: xs, env, st => match body x env st with
    | .next env' st' => if same g st st' then loopS body g xs env' st' else .err
    | .cont env' st' => if same g st st' then loopS body g xs env' st' else .err
    | .brk env' st' => .next env' st'
    | .ret r st' => .ret r st'
    | .exc c env' st' => .exc c env' st'
    | .err => .err
def whileF (c : Envr → List Ob → Rs R) (body : Envr → List Ob → Fl) : Nat → Envr → List Ob → Fl
  | 0, _, _ => .err
  | n + 1, env, st => match c env st with
    | .ok (.d (.bool true)) st' => match body env st' with
      | .next env' st'' => whileF c body n env' st''
      | .cont env' st'' => whileF c body n env' st''
      | .brk env' st'' => .next env' st''
      | .ret r st'' => .ret r st''
      | .exc c env' st'' => .exc c env' st''
      | .err => .err
    | .ok (.d (.bool false)) st' => .next env st'
    | .exc c st' => .exc c env st'
    | _ => .err
def wfuel : Nat := 1000000

abbrev Calls := Nat → List R → List Ob → Rs R
def tst (r : Rs R) (k : Bool → List Ob → Rs R) : Rs R := r.bind fun x st => match x with
  | .d (.bool b) => k b st
  | _ => .err

mutual
noncomputable def evE (Φ : Calls) : E → Envr → List Ob → Rs R
  | .var i, env, st => match env[i]? with
    | some (some r) => .ok r st
    | _ => .err
  | .dat d, _, st => .ok (.d d) st
  | .tup es, env, st => (evEs Φ es env st).bind fun rs st => match toDs rs with
    | some ds => .ok (.d (.tuple ds)) st
    | none => .err
  | .lst es, env, st => (evEs Φ es env st).bind fun rs st => match toDs rs with
    | some ds => .ok (.f (.lst ds)) st
    | none => .err
  | .dnew, _, st => .ok (.f (.dic [])) st
  | .dnewT, _, st => .ok (.f (.dit false [])) st
  | .get2 a b c, env, st => (evE Φ a env st).bind fun x st => if isDict x st then (evE Φ b env st).bind fun y st => (evE Φ c env st).bind fun z st => get2F x y z st else .err
  | .setd a b c, env, st => (evE Φ a env st).bind fun x st => if isDict x st then (evE Φ b env st).bind fun y st => (evE Φ c env st).bind fun z st => setdF x y z st else .err
  | .lock v e, env, st => match lockO env v st with
    | some (i, kvs) => unE i kvs (evE Φ e env (st.set i (.dit true kvs)))
    | none => .err
  | .andE a b, env, st => tst (evE Φ a env st) fun t st => if t then evE Φ b env st else okB false st
  | .orE a b, env, st => tst (evE Φ a env st) fun t st => if t then okB true st else evE Φ b env st
  | .notE a, env, st => tst (evE Φ a env st) fun t st => okB (!t) st
  | .cmp o a b, env, st => (evE Φ a env st).bind fun x st => (evE Φ b env st).bind fun y st => cmpF o x y st
  | .chain o o' a b c, env, st => (evE Φ a env st).bind fun x st => (evE Φ b env st).bind fun y st => tst (cmpF o x y st) fun t st =>
      if t then (evE Φ c env st).bind fun z st => cmpF o' y z st else okB false st
  | .ite c a b, env, st => tst (evE Φ c env st) fun t st => if t then evE Φ a env st else evE Φ b env st
  | .prim p es, env, st => (evEs Φ es env st).bind fun rs st => primF p rs st
  | .meth p a b, env, st => (evE Φ a env st).bind fun x st => if methOk p x st then (evE Φ b env st).bind fun y st => primF p [x, y] st else .err
  | .slc a lo hi, env, st => (evE Φ a env st).bind fun x st => (evO Φ lo env st).bind fun l st => (evO Φ hi env st).bind fun h st => slcF x l h st
  | .call f es, env, st => (evEs Φ es env st).bind fun rs st => Φ f rs st
  | .comp elt tg src c own, env, st => (evI Φ src env st).bind fun p st =>
      (compL (fun x st => match bindT tg x (wipeE env own) with
        | none => .err
        | some env' => (evC Φ c env' st).bind fun t st => if t then (evE Φ elt env' st).bind fun r st => (match toD r with
          | some d => .ok [d] st
          | none => .err) else .ok [] st) p.2 p.1 st).bind fun ds st => .ok (.f (.lst ds)) st
  | .comp2 elt tg src c tg' src' c' own own', env, st => (evI Φ src env st).bind fun p st =>
      (compL (fun x st => match bindT tg x (wipeE env own) with
        | none => .err
        | some env' => (evC Φ c env' st).bind fun t st => if t then (evI Φ src' env' st).bind fun p' st =>
            compL (fun x st => match bindT tg' x (wipeE env' own') with
              | none => .err
              | some env' => (evC Φ c' env' st).bind fun t st => if t then (evE Φ elt env' st).bind fun r st => (match toD r with
                | some d => .ok [d] st
                | none => .err) else .ok [] st) p'.2 p'.1 st else .ok [] st) p.2 p.1 st).bind fun ds st => if ds.length ≤ 1000000 then .ok (.f (.lst ds)) st else .err
noncomputable def evEs (Φ : Calls) : Es → Envr → List Ob → Rs (List R)
  | .nil, _, st => .ok [] st
  | .cons e es, env, st => (evE Φ e env st).bind fun r st => (evEs Φ es env st).bind fun rs st => .ok (r :: rs) st
noncomputable def evO (Φ : Calls) : Oe → Envr → List Ob → Rs (Option Int)
  | .no, _, st => .ok none st
  | .yes e, env, st => (evE Φ e env st).bind fun r st => match r with
    | .d (.int i) => .ok (some i) st
    | _ => .err
noncomputable def evC (Φ : Calls) : Oe → Envr → List Ob → Rs Bool
  | .no, _, st => .ok true st
  | .yes e, env, st => (evE Φ e env st).bind fun r st => match r with
    | .d (.bool b) => .ok b st
    | _ => .err
/-- the items that a for takes, and the object that must not change meanwhile -/
noncomputable def evI (Φ : Calls) : It → Envr → List Ob → Rs (List D × Option Nat)
  | .of e, env, st => (evE Φ e env st).bind fun r st => match r with
    | .d (.tuple xs) => .ok (xs, none) st
    | .d (.list xs) => .ok (xs, none) st
    | .d (.str z) => .ok (signs z, none) st
    | .f (.lst xs) => .ok (xs, none) st
    | .o i => match st[i]? with
      | some (.lst xs) => .ok (xs, some i) st
      | _ => .err
    | _ => .err
  | .range1 e, env, st => (evE Φ e env st).bind fun r st => match r with
    | .d (.int n) => if n < 1000000 ∧ -1000000 < n then .ok (((List.range n.toNat).map fun (k : Nat) => (PyData.int (k : Int))), none) st else .err
    | _ => .err
  | .range2 a b, env, st => (evE Φ a env st).bind fun r st => (evE Φ b env st).bind fun q st => match r, q with
    | .d (.int m), .d (.int n) => if n < 1000000 ∧ -1000000 < n ∧ m < 1000000 ∧ -1000000 < m then .ok (((List.range (n - m).toNat).map fun (k : Nat) => (PyData.int (m + (k : Int)))), none) st else .err
    | _, _ => .err
  | .enum e, env, st => (evE Φ e env st).bind fun r st => match r with
    | .d (.tuple xs) => .ok ((List.range xs.length).zipWith (fun (k : Nat) (x : D) => .tuple [.int k, x]) xs, none) st
    | _ => .err
  | .zip a b, env, st => (evE Φ a env st).bind fun r st => (evE Φ b env st).bind fun q st => match r, q with
    | .d (.tuple xs), .d (.tuple ys) => if zipOk xs ys then .ok (xs.zipWith (fun x y => .tuple [x, y]) ys, none) st else .err
    | r, .f (.lst ys) => match r with
      | .o i => match st[i]? with
        | some (.lst xs) => if zipOk xs ys then .ok (xs.zipWith (fun x y => .tuple [x, y]) ys, some i) st else .err
        | _ => .err
      | .f (.lst xs) => if zipOk xs ys then .ok (xs.zipWith (fun x y => .tuple [x, y]) ys, none) st else .err
      | _ => .err
    | _, _ => .err
  | .dkeys v, env, st => match env[v]? with
    | some (some (.o i)) => match st[i]? with
      | some (.dit true kvs) => .ok (kvs.map (·.1), some i) st
      | _ => .err
    | _ => .err
  | .ditems v, env, st => match env[v]? with
    | some (some (.o i)) => match st[i]? with
      | some (.dit true kvs) => if kvs.all fun p => prOk p.1 p.2 then .ok (kvs.map fun p => .tuple [p.1, p.2], some i) st else .err
      | _ => .err
    | _ => .err
end
def parSet : List Nat → List R → Envr → List Ob → Option (Envr × List Ob)
  | [], [], env, st => some (env, st)
  | i :: is, r :: rs, env, st => parSet is rs (env.set i (some (alloc r st).1)) (alloc r st).2
  | _, _, _, _ => none
def subF (o i v : R) (st : List Ob) : Option (List Ob) :=
  match o, i, toD v with
  | .o n, .d k, some d => match st[n]? with
    | some (.lst xs) => match k with
      | .int j => if 0 ≤ j ∧ j.toNat < xs.length then some (st.set n (.lst (xs.set j.toNat d))) else none
      | _ => none
    | some (.dic kvs) => if (keyD k).isSome ∧ kvs.length < 1000000 then some (st.set n (.dic (dput kvs k d))) else none
    | some (.dit false kvs) => if (keyT k).isSome ∧ kvs.length < 1000000 then some (st.set n (.dit false (dput kvs k d))) else none
    | some (.dit true _) => none
    | none => none
  | _, _, _ => none
def Rs.fl {α : Type} (env : Envr) (r : Rs α) (k : α → List Ob → Fl) : Fl :=
  match r with
  | .ok a st => k a st
  | .exc c st => .exc c env st
  | .err => .err
mutual
noncomputable def exS (Φ : Calls) : S → Envr → List Ob → Fl
  | .asg i e, env, st => (evE Φ e env st).fl env fun r st => .next (env.set i (some (alloc r st).1)) (alloc r st).2
  | .par is es, env, st => (evEs Φ es env st).fl env fun rs st => match parSet is rs env st with
    | some (env', st') => .next env' st'
    | none => .err
  | .tupa is e, env, st => (evE Φ e env st).fl env fun r st => match r with
    | .d (.tuple ds) => if ds.length = is.length then .next (setAll is ds env) st else .err
    | _ => .err
  | .sub o i v, env, st => (evE Φ v env st).fl env fun x st => (evE Φ o env st).fl env fun y st => (evE Φ i env st).fl env fun z st => match subF y z x st with
    | some st' => .next env st'
    | none => .err
  | .expr e, env, st => (evE Φ e env st).fl env fun _ st => .next env st
  | .ret e, env, st => (evE Φ e env st).fl env fun r st => .ret r st
  | .retN, _, st => .ret (.d .none) st
  | .ite c a b, env, st => (evE Φ c env st).fl env fun r st => match r with
    | .d (.bool true) => exSs Φ a env st
    | .d (.bool false) => exSs Φ b env st
    | _ => .err
  | .for tg src body, env, st => (evI Φ src env st).fl env fun p st => loopS (fun x env st => match bindT tg x env with
      | some env' => exSs Φ body env' st
      | none => .err) p.2 p.1 env st
  | .while c body, env, st => whileF (evE Φ c) (exSs Φ body) wfuel env st
  | .raise c, env, st => .exc c env st
  | .try n body hs, env, st => match exSs Φ body env st with
    | .exc c env' st' => if c < n then exHs Φ hs c env' st' else .err
    | r => r
  | .pass, env, st => .next env st
  | .lock v s, env, st => match lockO env v st with
    | some (i, kvs) => unS i kvs (exS Φ s env (st.set i (.dit true kvs)))
    | none => .err
  | .brk, env, st => .brk env st
  | .cont, env, st => .cont env st
noncomputable def exSs (Φ : Calls) : Ss → Envr → List Ob → Fl
  | .nil, env, st => .next env st
  | .cons s ss, env, st => match exS Φ s env st with
    | .next env' st' => exSs Φ ss env' st'
    | r => r
noncomputable def exHs (Φ : Calls) : Hs → Nat → Envr → List Ob → Fl
  | .nil, c, env, st => .exc c env st
  | .cons _ cs suite hs, c, env, st => if c ∈ cs then (match exSs Φ suite env st with
    | .exc _ _ _ => .err
    | r => r) else exHs Φ hs c env st
end

/-! ### defs -/
structure FD where
  np : Nat
  n : Nat
  body : Ss
def startE (fd : FD) (rs : List R) : Envr := rs.map some ++ List.replicate (fd.n - rs.length) none
/-- what a def hands back: base the store ahead of it, base' with its own arguments -/
def handB (r : R) (st : List Ob) (base base' : Nat) : Rs R :=
  match r with
  | .d x => .ok (.d x) (st.take base)
  | .f b => .ok (.f b) (st.take base)
  | .o i => if i < base then .ok (.o i) (st.take base) else if i < base' then .err else match st[i]? with
    | some b => .ok (.f b) (st.take base)
    | none => .err
noncomputable def callF (Φ : Calls) (fd : FD) (rs : List R) (st : List Ob) : Rs R :=
  if rs.length = fd.np then (match exSs Φ fd.body (startE fd (allocs rs st).1) (allocs rs st).2 with
    | .next _ st' => handB (.d .none) st' st.length (allocs rs st).2.length
    | .ret r st' => handB r st' st.length (allocs rs st).2.length
    | .exc c _ st' => .exc c (st'.take st.length)
    | _ => .err) else .err
noncomputable def calls (tb : List FD) : Nat → Calls
  | 0 => fun _ _ _ => .err
  | k + 1 => fun f rs st => match tb[f]? with
    | some fd => callF (calls tb k) fd rs st
    | none => .err
end Ev

/-! Ev2t: new tuples: what is laid may be kept as it is, so that it is known to have no __dict__ -/
namespace Ev
open PySem PySem.Spec PyProof.Rows L2
/-- a new tuple at p, plain or kept as it is -/
def NewT (Q : VK) (H : Hp) (p : Addr) (xs : List V) : Prop := Q (.ref p) (upd H p (.tup xs)) ∨ ∀ o : Obj, o.dict = none → Q (.ref p) (upd H p (.frz o (.tup xs)))
section
variable {X : Cx} {pins : List (Addr × Obj)} {σ : L2.St} {H : Hp} {s : Shared} {Q : VK}
theorem laidT (I : L2.Inv X pins σ H s) {xs : List V} {us : List Value} (rv : L2.Vals xs us) (z : xs.length ≤ sizeLine) (q : NewT Q H s.heap.objs.size xs) :
    EP X pins σ Q (.ref s.heap.objs.size) { s with heap := s.heap.push { cls := .type "tuple", data := .seq us.toArray } } := by
  have kp : ∀ b u, s.heap.get? b = some u → (s.heap.push { cls := .type "tuple", data := .seq us.toArray }).get? b = some u := fun b u e => Heap.get?_push_of_some _ e
  have tp : ∀ H2 : Hp, ObjOk X.prog X.w H2 (s.heap.push { cls := .type "tuple", data := .seq us.toArray }) s.heap.objs.size (.tup xs) := fun H2 => ⟨z, us, rv, _, Heap.get?_push_size _ rfl, rfl, _, rfl⟩
  rcases q with q | q
  · exact ⟨.ref _, _, I.laid (t' := s.toks) kp (Nat.le_refl _) (tp _), rfl, q⟩
  · exact ⟨.ref _, _, I.laid (t' := s.toks) (o := .frz { cls := .type "tuple", data := .seq us.toArray } (.tup xs)) kp (Nat.le_refl _) ⟨Heap.get?_push_size _ rfl, tp _⟩, rfl, q _ rfl⟩
end
section
variable {X : Cx} {es : List Expr} {t : TA} {pos : Pos}
/-- a tuple of written items -/
def tTupN (t : TA) : TE := fun σ H Q => t σ H fun xs H1 => xs.length ≤ sizeLine ∧ ∀ p, H1 p = none → NewT Q H1 p xs
theorem pe_tupN {x1} (h : PA X es t) : PE X (.Tuple es x1 pos) (tTupN t) := by
  constructor
  intro pins s σ H Q I hq
  refine wpAny_Tuple_spliced (thn (h.run pos pins s σ H _ I hq) ?_)
  rintro us s1 ⟨xs, H1, I1, rv, z, q⟩
  exact ⟨by rw [← rv.length]; exact z, laidT I1 rv z (q _ (I1.hok.fresh (Nat.le_refl _)))⟩
/-- tuple(x) -/
theorem call_tupleN : CallR X (.type "tuple") (fun xs H Q => ∃ p ys, xs = [.ref p] ∧ ((SqL X.K H p ys ∧ ∀ l, H l = none → NewT Q H l ys) ∨ (SqT X.K H p ys ∧ Q (.ref p) H))) := by
  rintro pins s σ H xs us Q I rv ⟨p, ys, rfl, h⟩
  obtain ⟨u, rfl, ru⟩ := vals1 rv
  cases ru
  rcases h with ⟨hq, q⟩ | ⟨hq, q⟩
  · obtain ⟨its, ri, pl, z⟩ := I.list hq
    have hl := ri.length
    refine call_tuple_list pl.isList (fun h' kp => ?_) (by simp only [List.size_toArray]; omega)
    have I1 : L2.Inv X pins σ H { s with heap := h' } := I.kept (t' := s.toks) kp
    exact laidT I1 ri z (q _ (I1.hok.fresh (Nat.le_refl _)))
  · obtain ⟨its, ri, pl, z⟩ := I.tuple hq
    exact call_tuple_same pl ⟨.ref _, _, I, rfl, q⟩
/-- t + u -/
def rCatN (K : PySem.W.Frag) : R2 := fun x y H Q => ∃ a b xs ys, x = .ref a ∧ y = .ref b ∧ SqT K H a xs ∧ SqT K H b ys ∧ xs.length + ys.length ≤ sizeLine ∧
  (xs = [] → Q (.ref b) H) ∧ (xs ≠ [] → ys = [] → Q (.ref a) H) ∧ (xs ≠ [] → ys ≠ [] → ∀ p, H p = none → NewT Q H p (xs ++ ys))
theorem op_catN : OpR X (binaryOp .Add) (rCatN X.K) := by
  rintro pins s σ H x y v u Q I rx ry ⟨a, b, xs, ys, rfl, rfl, ha, hb, z, q0, q1, q2⟩
  cases rx
  cases ry
  obtain ⟨us, r1, p1, _⟩ := I.tuple ha
  obtain ⟨ws, r2, p2, _⟩ := I.tuple hb
  by_cases c : xs = []
  · subst c
    cases r1
    exact cat_tup0 p1 p2 ⟨.ref _, _, I, rfl, q0 rfl⟩
  · refine HT.cat_tup p1 p2 (fun e => c (r1.nil_iff.mp e)) (fun e => ⟨.ref _, _, I, rfl, q1 c (r2.nil_iff.mp e)⟩) (fun e => ?_) (by rw [← r1.length, ← r2.length]; exact z)
    exact laidT I (r1.append r2) (by rw [List.length_append]; exact z) (q2 c (fun w => e (r2.nil_iff.mpr w)) _ (I.hok.fresh (Nat.le_refl _)))
/-- t[lo:hi] -/
def rSlN (K : PySem.W.Frag) : V → Option Int → Option Int → Hp → VK → Prop := fun x lo hi H Q => ∃ a xs, x = .ref a ∧ SqT K H a xs ∧
  (HT.sIx xs.length 0 lo = 0 ∧ HT.sIx xs.length xs.length hi = xs.length → Q (.ref a) H) ∧ (¬ (HT.sIx xs.length 0 lo = 0 ∧ HT.sIx xs.length xs.length hi = xs.length) → ∀ p, H p = none → NewT Q H p (cutV xs lo hi))
theorem sl_tupN : SlR X (rSlN X.K) := by
  rintro pins s σ H x v vl vu lo hi sl Q I rx hs pl pu ⟨a, xs, rfl, hx, q1, q2⟩
  cases rx
  obtain ⟨us, rv, ht, z⟩ := I.tuple hx
  have hn : us.toArray.size = xs.length := by
    rw [List.size_toArray]
    exact rv.length.symm
  refine ⟨"tuple", _, PyProof.Rows.slot_tuple_getitem.lookup, ht.typeIs, ?_⟩
  by_cases c : HT.sIx xs.length 0 lo = 0 ∧ HT.sIx xs.length xs.length hi = xs.length
  · exact getItem_tuple_whole ht hs pl pu (by rw [hn]; exact c) ⟨.ref _, _, I, rfl, q1 c⟩
  · refine HT.getItem_tuple_cut ht hs pl pu (by rw [hn]; exact c) ?_ (by rw [hn]; exact z)
    rw [hn]
    exact laidT I ((rv.drop (HT.sIx xs.length 0 lo)).take (HT.sIx xs.length xs.length hi - HT.sIx xs.length 0 lo)) (Nat.le_trans (cutV_length xs lo hi) z) (q2 c _ (I.hok.fresh (Nat.le_refl _)))
end
end Ev

/-! Ev3: operations on values that stand for data -/
namespace Ev
open PySem PySem.Spec PyProof.Rows L2

/-- a value stands for a result -/
def RR (K : PySem.W.Frag) (al : List Addr) (fz : Addr → Prop) (H : Hp) (v : V) : R → Prop
  | .d x => Rp K H fz v x
  | .o i => ∃ a, v = .ref a ∧ al[i]? = some a
  | .f b => ∃ a, v = .ref a ∧ Ro K H fz a b ∧ a ∉ al ∧ ¬ fz a
/-- a new object is new -/
def Fresh (H : Hp) (v : V) (r : R) : Prop := ∀ b a, r = .f b → v = .ref a → H a = none

section
variable {K : PySem.W.Frag} {al : List Addr} {fz fz' fz1 : Addr → Prop} {H H' H1 : Hp} {st st' : List Ob} {v : V} {r : R}

theorem Ok.mem (ok : Ok K al fz st H) {a : Addr} (h : a ∈ al) : ∃ b, b ∈ st ∧ Ro K H fz a b := by
  obtain ⟨i, hi, e⟩ := List.mem_iff_getElem.mp h
  obtain ⟨b, e2, r⟩ := paired_at' ok.obs (List.getElem?_eq_getElem hi)
  rw [e] at r
  exact ⟨b, List.mem_of_getElem? e2, r⟩
theorem Ok.obj (ok : Ok K al fz st H) {i : Nat} {b : Ob} (h : st[i]? = some b) : ∃ a, al[i]? = some a ∧ Ro K H fz a b := paired_at ok.obs h
theorem Ok.get (ok : Ok K al fz st H) {i : Nat} {a : Addr} (h : al[i]? = some a) : ∃ b, st[i]? = some b ∧ Ro K H fz a b := paired_at' ok.obs h
theorem Ok.len (ok : Ok K al fz st H) : al.length = st.length := paired_len ok.obs
theorem RR.kp (ok : Ok K al fz st H) (g : Go al fz H fz' H') (h : RR K al fz H v r) : RR K al fz' H' v r := by
  cases r with
  | d x => exact Rp.kp (ok.kp g) h
  | o i => exact h
  | f b =>
    obtain ⟨a, e, q, n, nf⟩ := h
    obtain ⟨o, ho⟩ : ∃ o, H a = some o := by
      cases e : H a with
      | none => exact absurd e q.some
      | some o => exact ⟨o, rfl⟩
    refine ⟨a, e, q.kp (ok.kp g) ?_, n, fun z => ?_⟩
    · rw [ho, g.keep a o ho n]
    · rcases g.new a z with z | z
      · exact nf z
      · rw [ho] at z
        cases z
theorem Fresh.back (g : Go al fz H fz' H') (h : Fresh H' v r) : Fresh H v r := fun b a e1 e2 => g.back (h b a e1 e2)
theorem Fresh.d {x : D} : Fresh H v (.d x) := fun _ _ e => by cases e
theorem Fresh.o {i : Nat} : Fresh H v (.o i) := fun _ _ e => by cases e

/-- what is known behind an operation -/
def Post (K : PySem.W.Frag) (al : List Addr) (fz : Addr → Prop) (H : Hp) (r : R) (st' : List Ob) (Q : VK) : Prop :=
  ∀ v H' fz', Go al fz H fz' H' → Ok K al fz' st' H' → RR K al fz' H' v r → Fresh H v r → Q v H'

/-! ### heaps that go on -/
theorem go_new {p : Addr} {o : HO} (n : H p = none) : Go al fz H fz (upd H p o) :=
  ⟨fun a u h _ => by rw [upd_ne (ne_of_none h n)]; exact h, fun a h => by
    by_cases e : a = p
    · rw [e, upd_same]
      simp
    · rw [upd_ne e]
      exact h, fun _ h => h, fun _ h => .inl h, fun a o u h => by rw [upd_ne (ne_of_none h n)]; exact h⟩
theorem Ok.go (ok : Ok K al fz st H) (g : Go al fz H fz' H') (sa : ∀ a ∈ al, H' a = H a) (trk : ∀ a, fz' a → ∃ xs, Rd H' a (.lst xs)) : Ok K al fz' st H' := by
  refine ⟨ok.nd, ?_, fun a m z => ?_, trk⟩
  · have h := ok.obs
    have q := ok.kp g
    have aux : ∀ {l : List Addr} {m : List Ob}, (∀ a ∈ l, H' a = H a) → Paired (Ro K H fz) l m → Paired (Ro K H' fz') l m := by
      intro l m hl hp
      induction hp with
      | nil => exact .nil
      | cons r t ih => exact .cons (r.kp q (hl _ List.mem_cons_self)) (ih fun a ha => hl a (List.mem_cons_of_mem _ ha))
    exact aux sa h
  · rcases g.new a z with z | z
    · exact ok.dis a m z
    · obtain ⟨b, _, r⟩ := ok.mem m
      exact r.some z
theorem Ok.new (ok : Ok K al fz st H) {p : Addr} {o : HO} (n : H p = none) : Ok K al fz st (upd H p o) := by
  refine ok.go (go_new n) (fun a m => ?_) fun a z => ?_
  · obtain ⟨b, _, r⟩ := ok.mem m
    rw [upd_ne]
    rintro rfl
    exact r.some n
  · obtain ⟨xs, h⟩ := ok.trk a z
    exact ⟨xs, Rd.of_eq h fun u e => by rw [upd_ne (ne_of_none e n)]; exact e⟩
/-- a new list is fixed: it is a datum now -/
def fzp (fz : Addr → Prop) (p : Addr) : Addr → Prop := fun a => fz a ∨ a = p
theorem go_fix {p : Addr} (n : H p = none) (g : Go al fz H fz1 H1) : Go al fz H (fzp fz1 p) H1 :=
  ⟨g.keep, g.there, fun a h => .inl (g.sub a h), fun a h => by
    rcases h with h | rfl
    · exact g.new a h
    · exact .inr n, g.lk⟩
theorem go_fix' {p : Addr} (n : H p ≠ none) (nf : ¬ fz p) (g : Go al fz H fz1 H1) : Go al fz H fz1 H1 := g
theorem Rp.fix {p : Addr} {v : V} {d : D} (h : Rp K H fz v d) : Rp K H (fzp fz p) v d := h.kp ⟨fun _ _ h => h, fun _ h => .inl h, fun _ _ _ h => h, fun _ _ _ h => h⟩
theorem Ok.fix (ok : Ok K al fz st H) {p : Addr} {ds : List D} (r : Ro K H fz p (.lst ds)) (n : p ∉ al) : Ok K al (fzp fz p) st H := by
  obtain ⟨xs, h, _, _⟩ := r
  refine ⟨ok.nd, paired_map (fun a b r => r.kp ⟨fun _ _ h => h, fun _ h => .inl h, fun _ _ _ h => h, fun _ _ _ h => h⟩ rfl) ok.obs, fun a m z => ?_, fun a z => ?_⟩
  · rcases z with z | rfl
    · exact ok.dis a m z
    · exact n m
  · rcases z with z | rfl
    · exact ok.trk a z
    · exact ⟨xs, .inl h⟩
theorem Ro.fixed {p : Addr} {ds : List D} (r : Ro K H fz p (.lst ds)) : Rp K H (fzp fz p) (.ref p) (.list ds) := by
  obtain ⟨xs, h, z, q⟩ := r
  exact .lst (.inl ⟨.inr rfl, .inl h⟩) z (Rps.kp ⟨fun _ _ h => h, fun _ h => .inl h, fun _ _ _ h => h, fun _ _ _ h => h⟩ q)

/-! ### the ends of operations -/
theorem Post.same {Q : VK} (q : Post K al fz H r st Q) (ok : Ok K al fz st H) (h : RR K al fz H v r) (fr : Fresh H v r) : Q v H := q v H fz Go.refl ok h fr
theorem Post.dat {Q : VK} {x : D} (q : Post K al fz H (.d x) st Q) (ok : Ok K al fz st H) (h : Rp K H fz v x) : Q v H := q.same ok h Fresh.d
theorem Post.tup {Q : VK} {ds : List D} {xs : List V} (q : Post K al fz H (.d (.tuple ds)) st Q) (ok : Ok K al fz st H) (h : Rps K H fz xs ds) (z : xs.length ≤ sizeLine) {p : Addr} (n : H p = none) : NewT Q H p xs := by
  cases e : subLike ds with
  | false => exact .inl (q _ _ fz (go_new n) (ok.new n) (.tup (.inl ⟨e, upd_same⟩) z (h.kp (ok.kp (go_new n)))) Fresh.d)
  | true => exact .inr fun o ho => q _ _ fz (go_new n) (ok.new n) (.tup (.inr ⟨e, o, ho, upd_same⟩) z (h.kp (ok.kp (go_new n)))) Fresh.d
theorem Post.lst {Q : VK} {ds : List D} {xs : List V} (q : Post K al fz H (.f (.lst ds)) st Q) (ok : Ok K al fz st H) (h : Rps K H fz xs ds) (z : xs.length ≤ sizeLine) {p : Addr} (n : H p = none) : Q (.ref p) (upd H p (.lst xs)) := by
  have np : p ∉ al := fun m => by
    obtain ⟨b, _, r⟩ := ok.mem m
    exact r.some n
  have nf : ¬ fz p := fun m => by
    obtain ⟨ys, h⟩ := ok.trk p m
    obtain ⟨o, e, _⟩ := Rd.some h
    rw [n] at e
    cases e
  refine q _ _ fz (go_new n) (ok.new n) ⟨p, rfl, ⟨xs, upd_same, z, h.kp (ok.kp (go_new n))⟩, np, nf⟩ fun b a _ e => ?_
  cases e
  exact n
/-- an object of the store is written -/
theorem kp_upd (ok : Ok K al fz st H) {a : Addr} {o : HO} (m : a ∈ al) : Kp H fz (upd H a o) fz := by
  have ne : ∀ b xs, H b = some (.tup xs) → b ≠ a := fun b xs h e => by
    obtain ⟨x, _, r⟩ := ok.mem m
    exact r.notup (e ▸ h)
  have ne' : ∀ b q xs, H b = some (.frz q (.tup xs)) → b ≠ a := fun b q xs h e => by
    obtain ⟨x, _, r⟩ := ok.mem m
    exact r.nofrt (e ▸ h)
  exact ⟨fun b xs h => by rw [upd_ne (ne b xs h)]; exact h, fun _ h => h, fun b xs h1 h2 => Rd.of_eq h2 fun u e => by rw [upd_ne (show b ≠ a from fun e2 => ok.dis b (by rw [e2]; exact m) h1)]; exact e, fun b q xs h => by rw [upd_ne (ne' b q xs h)]; exact h⟩
theorem go_upd {a : Addr} {o : HO} (m : a ∈ al) (nl : ∀ q u, H a ≠ some (.frz q u)) : Go al fz H fz (upd H a o) :=
  ⟨fun b u h nb => by rw [upd_ne (show b ≠ a from fun e => nb (by rw [e]; exact m))]; exact h, fun b h => by
    by_cases e : b = a
    · rw [e, upd_same]
      simp
    · rw [upd_ne e]
      exact h, fun _ h => h, fun _ h => .inl h, fun b q u h => by rw [upd_ne (show b ≠ a from fun e => nl q u (e ▸ h))]; exact h⟩
theorem Ok.upd (ok : Ok K al fz st H) {i : Nat} {a : Addr} {o : HO} {b : Ob} (hi : al[i]? = some a) (r : Ro K (L2.upd H a o) fz a b) : Ok K al fz (st.set i b) (L2.upd H a o) := by
  have m : a ∈ al := List.mem_of_getElem? hi
  have q := kp_upd ok (o := o) m
  refine ⟨ok.nd, ?_, ok.dis, fun c z => ?_⟩
  · have aux : ∀ {l : List Addr} {s : List Ob} (j : Nat), l.Nodup → l[j]? = some a → Paired (Ro K H fz) l s → Paired (Ro K (L2.upd H a o) fz) l (s.set j b) := by
      intro l s j nd hj hp
      induction hp generalizing j with
      | nil => simp at hj
      | @cons x y l s r' t ih =>
        obtain ⟨nx, nd'⟩ := List.nodup_cons.mp nd
        cases j with
        | zero =>
          simp at hj
          subst hj
          refine .cons r ?_
          have aux2 : ∀ {l : List Addr} {s : List Ob}, x ∉ l → Paired (Ro K H fz) l s → Paired (Ro K (L2.upd H x o) fz) l s := by
            intro l s hn hp
            induction hp with
            | nil => exact .nil
            | cons r t ih => exact .cons (r.kp q (upd_ne fun e => hn (e ▸ List.mem_cons_self))) (ih fun h => hn (List.mem_cons_of_mem _ h))
          exact aux2 nx t
        | succ j =>
          have hj' : l[j]? = some a := by simpa using hj
          refine .cons (r'.kp q (upd_ne ?_)) (ih j nd' hj')
          rintro rfl
          exact nx (List.mem_of_getElem? hj')
    exact aux i ok.nd hi ok.obs
  · obtain ⟨xs, h⟩ := ok.trk c z
    exact ⟨xs, Rd.of_eq h fun u e => by rw [upd_ne (show c ≠ a from fun e2 => ok.dis c (by rw [e2]; exact m) z)]; exact e⟩

/-! ### what is read -/
theorem sq_new {p : Addr} {xs : List V} (h : H p = some (.lst xs)) : SqL K H p xs := .inl (.inl h)
/-- a list: data, an object, a new one -/
theorem lstOf_ok (ok : Ok K al fz st H) (h : RR K al fz H v r) {ds : List D} (e : lstOf st r = some ds) : ∃ a xs, v = .ref a ∧ SqL K H a xs ∧ xs.length ≤ sizeLine ∧ Rps K H fz xs ds := by
  cases r with
  | d x =>
    cases x with
    | list ys =>
      cases e
      cases h with
      | lst h1 h2 h3 => exact ⟨_, _, rfl, h1.sq, h2, h3⟩
    | _ => cases e
  | o i =>
    obtain ⟨a, rfl, ha⟩ := h
    obtain ⟨b, hb, r⟩ := ok.get ha
    have e' : (match st[i]? with | some (.lst xs) => some xs | _ => none) = some ds := e
    rw [hb] at e'
    cases b with
    | lst ys =>
      cases e'
      obtain ⟨xs, h1, h2, h3⟩ := r
      exact ⟨a, xs, rfl, sq_new h1, h2, h3⟩
    | dic kvs => cases e'
    | dit l kvs => cases e'
  | f b =>
    obtain ⟨a, rfl, r, _, _⟩ := h
    cases b with
    | lst ys =>
      cases e
      obtain ⟨xs, h1, h2, h3⟩ := r
      exact ⟨a, xs, rfl, sq_new h1, h2, h3⟩
    | dic kvs => cases e
    | dit l kvs => cases e
theorem seqOf_ok (ok : Ok K al fz st H) (h : RR K al fz H v r) {ds : List D} (e : seqOf st r = some ds) :
    ∃ a xs, v = .ref a ∧ xs.length ≤ sizeLine ∧ Rps K H fz xs ds ∧ ((SqL K H a xs ∧ lstOf st r = some ds) ∨ (TupAt H a xs ds ∧ r = .d (.tuple ds))) := by
  have other : lstOf st r = some ds → ∃ a xs, v = .ref a ∧ xs.length ≤ sizeLine ∧ Rps K H fz xs ds ∧ ((SqL K H a xs ∧ lstOf st r = some ds) ∨ (TupAt H a xs ds ∧ r = .d (.tuple ds))) := fun e => by
    obtain ⟨a, xs, h1, h2, h3, h4⟩ := lstOf_ok ok h e
    exact ⟨a, xs, h1, h3, h4, .inl ⟨h2, e⟩⟩
  cases r with
  | d x =>
    cases x with
    | tuple ys =>
      cases e
      cases h with
      | tup h1 h2 h3 => exact ⟨_, _, rfl, h2, h3, .inr ⟨h1, rfl⟩⟩
    | list ys => exact other e
    | _ => cases e
  | o i => exact other e
  | f b => exact other e
theorem dicOf_ok (ok : Ok K al fz st H) (h : RR K al fz H v r) {kvs : List (D × D)} (e : dicOf st r = some kvs) : ∃ a ks, v = .ref a ∧ H a = some (.dK ks) ∧ ks.length ≤ sizeLine ∧ Paired (PairK K H fz) ks kvs := by
  cases r with
  | d x => cases e
  | o i =>
    obtain ⟨a, rfl, ha⟩ := h
    obtain ⟨b, hb, r⟩ := ok.get ha
    have e' : (match st[i]? with | some (.dic xs) => some xs | _ => none) = some kvs := e
    rw [hb] at e'
    cases b with
    | dic ys =>
      cases e'
      obtain ⟨xs, h1, h2, h3⟩ := r
      exact ⟨a, xs, rfl, h1, h2, h3⟩
    | lst kvs => cases e'
    | dit l kvs => cases e'
  | f b =>
    obtain ⟨a, rfl, r, _, _⟩ := h
    cases b with
    | dic ys =>
      cases e
      obtain ⟨xs, h1, h2, h3⟩ := r
      exact ⟨a, xs, rfl, h1, h2, h3⟩
    | lst kvs => cases e
    | dit l kvs => cases e
theorem Ro.dit {a : Addr} {l : Bool} {kvs : List (D × D)} (h : Ro K H fz a (.dit l kvs)) : ∃ ks, Rd H a (.dT ks) ∧ ks.length ≤ sizeLine ∧ Paired (PairT K H fz) ks kvs := by
  cases l with
  | false =>
    obtain ⟨ks, h1, h2, h3⟩ := h
    exact ⟨ks, .inl h1, h2, h3⟩
  | true =>
    obtain ⟨ks, h1, h2, h3⟩ := h
    exact ⟨ks, .inr h1, h2, h3⟩
theorem ditOf_ok (ok : Ok K al fz st H) (h : RR K al fz H v r) {kvs : List (D × D)} (e : ditOf st r = some kvs) : ∃ a ks, v = .ref a ∧ Rd H a (.dT ks) ∧ ks.length ≤ sizeLine ∧ Paired (PairT K H fz) ks kvs := by
  cases r with
  | d x => cases e
  | o i =>
    obtain ⟨a, rfl, ha⟩ := h
    obtain ⟨b, hb, r⟩ := ok.get ha
    have e' : (match st[i]? with | some (.dit _ xs) => some xs | _ => none) = some kvs := e
    rw [hb] at e'
    cases b with
    | dit l ys =>
      cases e'
      obtain ⟨ks, h1⟩ := r.dit
      exact ⟨a, ks, rfl, h1⟩
    | lst kvs => cases e'
    | dic kvs => cases e'
  | f b =>
    obtain ⟨a, rfl, r, _, _⟩ := h
    cases b with
    | dit l ys =>
      cases e
      obtain ⟨ks, h1⟩ := r.dit
      exact ⟨a, ks, rfl, h1⟩
    | lst kvs => cases e
    | dic kvs => cases e
theorem ditFree_ok (ok : Ok K al fz st H) (h : RR K al fz H v r) {kvs : List (D × D)} (e : ditFree st r = some kvs) : ∃ a ks, v = .ref a ∧ H a = some (.dT ks) ∧ ks.length ≤ sizeLine ∧ Paired (PairT K H fz) ks kvs := by
  cases r with
  | d x => cases e
  | o i =>
    obtain ⟨a, rfl, ha⟩ := h
    obtain ⟨b, hb, r⟩ := ok.get ha
    have e' : (match st[i]? with | some (.dit false xs) => some xs | _ => none) = some kvs := e
    rw [hb] at e'
    cases b with
    | dit l ys =>
      cases l with
      | true => cases e'
      | false =>
        cases e'
        obtain ⟨ks, h1⟩ := r
        exact ⟨a, ks, rfl, h1⟩
    | lst kvs => cases e'
    | dic kvs => cases e'
  | f b =>
    obtain ⟨a, rfl, r, _, _⟩ := h
    cases b with
    | dit l ys =>
      cases l with
      | true => cases e
      | false =>
        cases e
        obtain ⟨ks, h1⟩ := r
        exact ⟨a, ks, rfl, h1⟩
    | lst kvs => cases e
    | dic kvs => cases e
/-- as data, as it is just now -/
theorem nowD_ok (ok : Ok K al fz st H) (h : RR K al fz H v r) {d : D} (e : nowD st r = some d) : Dp K H v d ∧ d.canLay0 = true := by
  have lst : ∀ {a : Addr} {xs : List V} {ds : List D}, H a = some (.lst xs) → Rps K H fz xs ds → Dp K H (.ref a) (.list ds) ∧ (PyData.list ds).canLay0 = true := fun {a xs ds} h1 h2 =>
    ⟨.lst (sq_new h1) h2.dp, by
      rw [PyData.canLay0]
      exact h2.lay⟩
  cases r with
  | d x =>
    cases e
    exact ⟨Rp.dp h, Rp.lay h⟩
  | o i =>
    obtain ⟨a, rfl, ha⟩ := h
    obtain ⟨b, hb, r⟩ := ok.get ha
    have e' : (match st[i]? with | some (.lst xs) => some (PyData.list xs) | _ => none) = some d := e
    rw [hb] at e'
    cases b with
    | lst ys =>
      cases e'
      obtain ⟨xs, h1, h2, h3⟩ := r
      exact lst h1 h3
    | dic kvs => cases e'
    | dit l kvs => cases e'
  | f b =>
    obtain ⟨a, rfl, r, _, _⟩ := h
    cases b with
    | lst ys =>
      cases e
      obtain ⟨xs, h1, h2, h3⟩ := r
      exact lst h1 h3
    | dic kvs => cases e
    | dit l kvs => cases e
end
end Ev

/-! Ev4: the operators -/
namespace Ev
open PySem PySem.Spec PyProof.Rows L2

/-- an operation on values does what p says of the data -/
def PV (K : PySem.W.Frag) (p : List R → List Ob → Rs R) (vs : List V) (H : Hp) (Q : VK) : Prop :=
  ∃ al fz st rs r st', Ok K al fz st H ∧ Paired (RR K al fz H) vs rs ∧ p rs st = .ok r st' ∧ Post K al fz H r st' Q
theorem paired1 {α β : Type} {F : α → β → Prop} {x : α} {l : List β} (h : Paired F [x] l) : ∃ y, l = [y] ∧ F x y := by
  cases h with
  | cons r t => cases t; exact ⟨_, rfl, r⟩
theorem paired2 {α β : Type} {F : α → β → Prop} {x y : α} {l : List β} (h : Paired F [x, y] l) : ∃ u v, l = [u, v] ∧ F x u ∧ F y v := by
  cases h with
  | cons r t =>
    obtain ⟨v, e, q⟩ := paired1 t
    exact ⟨_, v, by rw [e], r, q⟩
theorem ok_inj {α : Type} {a b : α} {s t : List Ob} (h : (Rs.ok a s) = Rs.ok b t) : a = b ∧ s = t := by
  cases h
  exact ⟨rfl, rfl⟩
theorem rp_int {K : PySem.W.Frag} {H : Hp} {fz : Addr → Prop} {v : V} {i : Int} (h : Rp K H fz v (.int i)) : v = .int i := by
  cases h
  rfl
theorem rp_str {K : PySem.W.Frag} {H : Hp} {fz : Addr → Prop} {v : V} {i : Str} (h : Rp K H fz v (.str i)) : v = .str i ∧ okS i = true := by
  cases h with
  | str _ h => exact ⟨rfl, h⟩
theorem rp_bool {K : PySem.W.Frag} {H : Hp} {fz : Addr → Prop} {v : V} {i : Bool} (h : Rp K H fz v (.bool i)) : v = .bl i := by
  cases h
  rfl
theorem rp_tup {K : PySem.W.Frag} {H : Hp} {fz : Addr → Prop} {v : V} {ds : List D} (h : Rp K H fz v (.tuple ds)) : ∃ a xs, v = .ref a ∧ TupAt H a xs ds ∧ xs.length ≤ sizeLine ∧ Rps K H fz xs ds := by
  cases h with
  | tup h1 h2 h3 => exact ⟨_, _, rfl, h1, h2, h3⟩
theorem okS_len {x : Str} (h : okS x = true) : x.length ≤ 1000 := of_decide_eq_true (Bool.and_eq_true_iff.mp h).2
theorem size_ok {n : Nat} (h : n ≤ 1000000) : n ≤ sizeLine := Nat.le_trans h (by decide)
section
variable {X : Cx}
/-- list + list -/
def rCatL (K : PySem.W.Frag) : R2 := fun x y H Q => ∃ a b xs ys, x = .ref a ∧ y = .ref b ∧ SqL K H a xs ∧ SqL K H b ys ∧ xs.length + ys.length ≤ sizeLine ∧ ∀ p, H p = none → Q (.ref p) (upd H p (.lst (xs ++ ys)))
theorem op_catL : OpR X (binaryOp .Add) (rCatL X.K) := by
  intro pins s σ H x y v u Q I rx ry h
  obtain ⟨l, b, xs, zs, rfl, rfl, hH, hB, hz, q⟩ := h
  cases rx
  cases ry
  obtain ⟨its, r, pl, _⟩ := I.list hH
  obtain ⟨its2, r2, pl2, _⟩ := I.list hB
  obtain ⟨o, n, e, c1, d1, e1⟩ := pl
  obtain ⟨o2, n2, e2, c2, d2, e3⟩ := pl2
  have hl := r.length
  have hl2 := r2.length
  obtain ⟨oc, od, dt, sl⟩ := o
  obtain ⟨oc2, od2, dt2, sl2⟩ := o2
  simp only at c1 d1 e1 c2 d2 e3
  subst c1 d1 e1 c2 d2 e3
  have ea : its.toArray ++ its2.toArray = (its ++ its2).toArray := by simp
  refine concat_meets ⟨_, e, rfl⟩ ⟨_, e2, rfl⟩ noFill_list_add seq_list_add PySem.F.slot_list_add PySem.F.entry_list_add (PySem.F.args_list_add_2 _ _)
    (list_addW l b its.toArray its2.toArray n n2 none none sl sl2 (by simp only [List.size_toArray]; omega)) ⟨e, e2, ?_⟩
  rw [ea]
  have hf : H s.heap.objs.size = none := I.hok.fresh (Nat.le_refl _)
  refine ⟨.ref s.heap.objs.size, upd H s.heap.objs.size (.lst (xs ++ zs)), I.laid (t' := s.toks) (fun b u e => Heap.get?_push_of_some _ e) (Nat.le_refl _) ⟨by rw [List.length_append]; exact hz, its ++ its2, 0, r.append r2, ?_⟩, rfl, q _ hf⟩
  exact Heap.get?_push_size _ rfl

theorem catL_ok {K : PySem.W.Frag} {al : List Addr} {fz : Addr → Prop} {H : Hp} {st st' : List Ob} {x y : V} {r1 r2 r : R} {Q : VK} (ok : Ok K al fz st H) (h1 : RR K al fz H x r1) (h2 : RR K al fz H y r2)
    (e : catL r1 r2 st = .ok r st') (q : Post K al fz H r st' Q) : rCatL K x y H Q := by
  unfold catL at e
  split at e
  · rename_i a b e1 e2
    split at e
    · rename_i hz
      cases e
      obtain ⟨p, xs, rfl, s1, z1, q1⟩ := lstOf_ok ok h1 e1
      obtain ⟨p2, ys, rfl, s2, z2, q2⟩ := lstOf_ok ok h2 e2
      have hz' : xs.length + ys.length ≤ sizeLine := by
        rw [q1.len, q2.len]
        exact size_ok hz
      exact ⟨p, p2, xs, ys, rfl, rfl, s1, s2, hz', fun p n => q.lst ok (q1.append q2) (by rw [List.length_append]; exact hz') n⟩
    · cases e
  · cases e
theorem op_addE : OpR X (binaryOp .Add) (fun x y H Q => PV X.K (primF .add) [x, y] H Q) := by
  intro pins s σ H x y v u Q I rx ry h
  obtain ⟨al, fz, st, rs, r, st', ok, hr, e, q⟩ := h
  obtain ⟨r1, r2, rfl, h1, h2⟩ := paired2 hr
  have e : addF r1 r2 st = .ok r st' := e
  unfold addF at e
  split at e
  · split at e
    · cases e
      exact op_add pins s σ H x y v u Q I rx ry ⟨_, _, rp_int h1, rp_int h2, q.dat ok (.int _)⟩
    · cases e
  · split at e
    · split at e
      · rename_i hs
        cases e
        obtain ⟨e1, z1⟩ := rp_str h1
        obtain ⟨e2, z2⟩ := rp_str h2
        refine op_add_str pins s σ H x y v u Q I rx ry ⟨_, _, e1, e2, ?_, q.dat ok (.str _ hs)⟩
        have := okS_len z1
        have := okS_len z2
        exact size_ok (by omega)
      · cases e
    · cases e
  · split at e
    · split at e
      · rename_i hz
        cases e
        obtain ⟨a, xs, rfl, ha, z1, q1⟩ := rp_tup h1
        obtain ⟨b, ys, rfl, hb, z2, q2⟩ := rp_tup h2
        have hz' : xs.length + ys.length ≤ sizeLine := by
          rw [q1.len, q2.len]
          exact size_ok hz
        refine op_catN pins s σ H _ _ v u Q I rx ry ⟨a, b, xs, ys, rfl, rfl, .inl ha.rd, .inl hb.rd, hz', fun e => ?_, fun _ e => ?_, fun _ _ p n => q.tup ok (q1.append q2) (by rw [List.length_append]; exact hz') n⟩
        · subst e
          cases q1
          exact q.dat ok (.tup hb z2 q2)
        · subst e
          cases q2
          refine q.dat ok ?_
          rw [List.append_nil]
          exact .tup ha z1 q1
      · cases e
    · cases e
  · exact op_catL pins s σ H x y v u Q I rx ry (catL_ok ok h1 h2 e q)
end
end Ev

/-! Ev5: arithmetic, built-ins, methods -/
namespace Ev
open PySem PySem.Spec PyProof.Rows L2
theorem intF_ok {x y r : R} {k : Int → Int → Rs R} {st' : List Ob} (e : intF x y k = .ok r st') : ∃ a b, x = .d (.int a) ∧ y = .d (.int b) ∧ k a b = .ok r st' := by
  unfold intF at e
  split at e
  · exact ⟨_, _, rfl, rfl, e⟩
  · cases e
theorem newL_ok {x r : R} {k : List D → Rs R} {st' : List Ob} (e : newL x k = .ok r st') : ∃ xs, x = .f (.lst xs) ∧ k xs = .ok r st' := by
  unfold newL at e
  split at e
  · exact ⟨_, rfl, e⟩
  · cases e
theorem objL_ok {x r : R} {st : List Ob} {k : Nat → List D → Rs R} {st' : List Ob} (e : objL x st k = .ok r st') : ∃ i xs, x = .o i ∧ st[i]? = some (.lst xs) ∧ k i xs = .ok r st' := by
  unfold objL at e
  split at e
  · split at e
    · exact ⟨_, _, rfl, by assumption, e⟩
    · cases e
  · cases e
theorem if_ok {c : Prop} [Decidable c] {a : Rs R} {r : R} {st' : List Ob} (e : (if c then a else .err) = .ok r st') : c ∧ a = .ok r st' := by
  split at e
  · exact ⟨by assumption, e⟩
  · cases e
section
variable {X : Cx}
theorem op_subE : OpR X (binaryOp .Sub) (fun x y H Q => PV X.K (primF .sub) [x, y] H Q) := by
  intro pins s σ H x y v u Q I rx ry h
  obtain ⟨al, fz, st, rs, r, st', ok, hr, e, q⟩ := h
  obtain ⟨r1, r2, rfl, h1, h2⟩ := paired2 hr
  obtain ⟨a, b, rfl, rfl, e⟩ := intF_ok e
  cases e
  exact op_sub pins s σ H x y v u Q I rx ry ⟨_, _, rp_int h1, rp_int h2, q.dat ok (.int _)⟩
theorem op_mulE : OpR X (binaryOp .Mult) (fun x y H Q => PV X.K (primF .mul) [x, y] H Q) := by
  intro pins s σ H x y v u Q I rx ry h
  obtain ⟨al, fz, st, rs, r, st', ok, hr, e, q⟩ := h
  obtain ⟨r1, r2, rfl, h1, h2⟩ := paired2 hr
  have e : mulF r1 r2 st = .ok r st' := e
  unfold mulF at e
  split at e
  · rename_i b _
    split at e
    · obtain ⟨hc, e⟩ := if_ok e
      cases e
      exact op_mul pins s σ H x y v u Q I rx ry ⟨_, _, rp_int h1, rp_int h2, hc, q.dat ok (.int _)⟩
    · rename_i xs _
      obtain ⟨hc, e⟩ := if_ok e
      cases e
      obtain ⟨a, rfl, ⟨ys, ha, z1, q1⟩, _, _⟩ := h1
      have hz : ys.length * b.toNat ≤ sizeLine := by
        rw [q1.len]
        have : xs.length * b.toNat ≤ 1000 * 1000 := Nat.mul_le_mul hc.2.2 (by omega)
        exact size_ok this
      have hl : (List.replicate b.toNat ys).flatten.length ≤ sizeLine := by
        rw [List.length_flatten, List.map_replicate, List.sum_replicate_nat, Nat.mul_comm]
        exact hz
      refine op_rep pins s σ H _ y v u Q I rx ry ⟨a, b, ys, rfl, rp_int h2, ha, by omega, by omega, hz, fun p n => q.lst ok ?_ hl n⟩
      have aux : ∀ n : Nat, Rps X.K H fz (List.replicate n ys).flatten (List.replicate n xs).flatten := by
        intro n
        induction n with
        | zero => exact .nil
        | succ n ih =>
          rw [List.replicate_succ, List.replicate_succ, List.flatten_cons, List.flatten_cons]
          exact q1.append ih
      exact aux _
    · cases e
  · cases e
theorem op_fdivE : OpR X (binaryOp .FloorDiv) (fun x y H Q => PV X.K (primF .fdiv) [x, y] H Q) := by
  intro pins s σ H x y v u Q I rx ry h
  obtain ⟨al, fz, st, rs, r, st', ok, hr, e, q⟩ := h
  obtain ⟨r1, r2, rfl, h1, h2⟩ := paired2 hr
  obtain ⟨a, b, rfl, rfl, e⟩ := intF_ok e
  obtain ⟨hc, e⟩ := if_ok e
  cases e
  exact op_fdivN pins s σ H x y v u Q I rx ry ⟨_, _, rp_int h1, rp_int h2, hc, q.dat ok (.int _)⟩
theorem op_modE : OpR X (binaryOp .Mod) (fun x y H Q => PV X.K (primF .mod) [x, y] H Q) := by
  intro pins s σ H x y v u Q I rx ry h
  obtain ⟨al, fz, st, rs, r, st', ok, hr, e, q⟩ := h
  obtain ⟨r1, r2, rfl, h1, h2⟩ := paired2 hr
  obtain ⟨a, b, rfl, rfl, e⟩ := intF_ok e
  obtain ⟨hc, e⟩ := if_ok e
  cases e
  exact op_modN pins s σ H x y v u Q I rx ry ⟨_, _, rp_int h1, rp_int h2, hc, q.dat ok (.int _)⟩
theorem op_powE : OpR X (binaryOp .Pow) (fun x y H Q => PV X.K (primF .pow) [x, y] H Q) := by
  intro pins s σ H x y v u Q I rx ry h
  obtain ⟨al, fz, st, rs, r, st', ok, hr, e, q⟩ := h
  obtain ⟨r1, r2, rfl, h1, h2⟩ := paired2 hr
  obtain ⟨a, b, rfl, rfl, e⟩ := intF_ok e
  obtain ⟨hc, e⟩ := if_ok e
  cases e
  exact op_pow pins s σ H x y v u Q I rx ry ⟨_, _, rp_int h1, rp_int h2, hc, q.dat ok (.int _)⟩
theorem un_negE : UnR X (unaryOp .USub) (fun x H Q => PV X.K (primF .neg) [x] H Q) := by
  intro pins s σ H x v Q I rx h
  obtain ⟨al, fz, st, rs, r, st', ok, hr, e, q⟩ := h
  obtain ⟨r1, rfl, h1⟩ := paired1 hr
  have e : (match r1 with | .d (.int a) => Rs.ok (R.d (.int (-a))) st | _ => .err) = .ok r st' := e
  split at e
  · cases e
    exact un_neg pins s σ H x v Q I rx ⟨_, rp_int h1, q.dat ok (.int _)⟩
  · cases e

/-! ### built-ins -/
theorem cr_len : CallR X (.builtin "len") (fun vs H Q => PV X.K (primF .len) vs H Q ∧ vs.length = 1) := by
  intro pins s σ H vs us Q I r h
  obtain ⟨⟨al, fz, st, rs, r0, st', ok, hr, e, q⟩, hl⟩ := h
  obtain ⟨x, rfl⟩ : ∃ x, vs = [x] := by
    match vs, hl with
    | [x], _ => exact ⟨x, rfl⟩
  obtain ⟨r1, rfl, h1⟩ := paired1 hr
  have e : (match lenOf st r1 with | some n => Rs.ok (R.d (.int n)) st | none => .err) = .ok r0 st' := e
  split at e
  · rename_i n hn
    cases e
    have other : (match seqOf st r1 with | some xs => some xs.length | none => match dicOf st r1 with | some kvs => some kvs.length | none => (ditFree st r1).map (·.length)) = some n → wpAny (model X.prog X.w) X.A (call (.builtin "len") us) (EP X pins σ Q) X.xe s := fun e => by
      split at e
      · rename_i xs hs
        cases e
        obtain ⟨a, ys, rfl, z, q1, hh⟩ := seqOf_ok ok h1 hs
        have hq : Q (.int (ys.length : Nat)) H := by
          rw [q1.len]
          exact q.dat ok (.int _)
        rcases hh with ⟨hh, _⟩ | ⟨hh, _⟩
        · exact call_len_seq pins s σ H _ us Q I r ⟨a, ys, rfl, .inl hh, hq⟩
        · exact call_len_seq pins s σ H _ us Q I r ⟨a, ys, rfl, .inr (.inl hh.rd), hq⟩
      · cases hd : dicOf st r1 with
        | none =>
          rw [hd] at e
          dsimp only at e
          cases he : ditFree st r1 with
          | none =>
            rw [he] at e
            cases e
          | some kvs =>
            rw [he] at e
            cases e
            obtain ⟨a, ks, rfl, ha, z, q1⟩ := ditFree_ok ok h1 he
            refine call_len_dT pins s σ H _ us Q I r ⟨a, ks, rfl, ha, ?_⟩
            rw [paired_len q1]
            exact q.dat ok (.int _)
        | some kvs =>
          rw [hd] at e
          cases e
          obtain ⟨a, ks, rfl, ha, z, q1⟩ := dicOf_ok ok h1 hd
          obtain ⟨u, rfl, ru⟩ := vals1 r
          cases ru
          refine d_len I (.inl ha) fun t s' I' => ?_
          rw [paired_len q1]
          exact ⟨.int _, H, I', ⟨t, rfl⟩, q.dat ok (.int _)⟩
    cases r1 with
    | d z =>
      cases z with
      | str z =>
        cases hn
        obtain ⟨rfl, hz⟩ := rp_str h1
        exact call_len_str pins s σ H _ us Q I r ⟨z, rfl, size_ok (Nat.le_trans (okS_len hz) (by decide)), q.dat ok (.int _)⟩
      | _ => exact other hn
    | o i => exact other hn
    | f b => exact other hn
  · cases e
theorem bools_of {K : PySem.W.Frag} {H : Hp} {fz : Addr → Prop} : ∀ {xs : List V} {ds : List D}, Rps K H fz xs ds → ds.all isBool = true → ∃ bs : List Bool, xs = bs.map V.bl ∧ ds = bs.map PyData.bool
  | _, _, .nil, _ => ⟨[], rfl, rfl⟩
  | _, _, .cons (d := d) h1 h2, h => by
    rw [List.all_cons, Bool.and_eq_true] at h
    obtain ⟨bs, rfl, rfl⟩ := bools_of h2 h.2
    cases d with
    | bool b =>
      have := rp_bool h1
      subst this
      exact ⟨b :: bs, rfl, rfl⟩
    | _ => cases h.1
theorem ints_of {K : PySem.W.Frag} {H : Hp} {fz : Addr → Prop} : ∀ {xs : List V} {ds : List D}, Rps K H fz xs ds → ds.all isInt = true → ∃ bs : List Int, xs = bs.map V.int ∧ ds = bs.map PyData.int
  | _, _, .nil, _ => ⟨[], rfl, rfl⟩
  | _, _, .cons (d := d) h1 h2, h => by
    rw [List.all_cons, Bool.and_eq_true] at h
    obtain ⟨bs, rfl, rfl⟩ := ints_of h2 h.2
    cases d with
    | int b =>
      have := rp_int h1
      subst this
      exact ⟨b :: bs, rfl, rfl⟩
    | _ => cases h.1
theorem strs_of {K : PySem.W.Frag} {H : Hp} {fz : Addr → Prop} : ∀ {xs : List V} {ds : List D}, Rps K H fz xs ds → ds.all isStr = true → ∃ bs : List Str, xs = bs.map V.str ∧ ds = bs.map PyData.str ∧ ∀ b ∈ bs, okS b = true
  | _, _, .nil, _ => ⟨[], rfl, rfl, fun _ h => by cases h⟩
  | _, _, .cons (d := d) h1 h2, h => by
    rw [List.all_cons, Bool.and_eq_true] at h
    obtain ⟨bs, rfl, rfl, hb⟩ := strs_of h2 h.2
    cases d with
    | str b =>
      obtain ⟨rfl, hz⟩ := rp_str h1
      refine ⟨b :: bs, rfl, rfl, fun c hc => ?_⟩
      rcases List.mem_cons.mp hc with rfl | hc
      · exact hz
      · exact hb c hc
    | _ => cases h.1
theorem all_true (bs : List Bool) : ((bs.map PyData.bool).all fun x => PyData.eqv x (.bool true)) = bs.all id := by
  rw [List.all_map]
  congr 1
  funext b
  cases b <;> rfl
theorem any_true (bs : List Bool) : ((bs.map PyData.bool).any fun x => PyData.eqv x (.bool true)) = bs.any id := by
  rw [List.any_map]
  congr 1
  funext b
  cases b <;> rfl
/-- one argument -/
def PV1 (K : PySem.W.Frag) (p : Prim) : List V → Hp → VK → Prop := fun vs H Q => PV K (primF p) vs H Q ∧ vs.length = 1
theorem pv1 {K : PySem.W.Frag} {p : Prim} {vs : List V} {H : Hp} {Q : VK} (h : PV1 K p vs H Q) : ∃ x al fz st r1 r st', vs = [x] ∧ Ok K al fz st H ∧ RR K al fz H x r1 ∧ primF p [r1] st = .ok r st' ∧ Post K al fz H r st' Q := by
  obtain ⟨⟨al, fz, st, rs, r0, st', ok, hr, e, q⟩, hl⟩ := h
  obtain ⟨x, rfl⟩ : ∃ x, vs = [x] := by
    match vs, hl with
    | [x], _ => exact ⟨x, rfl⟩
  obtain ⟨r1, rfl, h1⟩ := paired1 hr
  exact ⟨x, al, fz, st, r1, r0, st', rfl, ok, h1, e, q⟩
theorem cr_allE (hc : X.calm = true) : CallR X (.builtin "all") (PV1 X.K .all) := by
  intro pins s σ H vs us Q I r h
  obtain ⟨x, al, fz, st, r1, r0, st', rfl, ok, h1, e, q⟩ := pv1 h
  obtain ⟨xs, rfl, e⟩ := newL_ok e
  obtain ⟨hb, e⟩ := if_ok e
  cases e
  obtain ⟨a, rfl, ⟨ys, ha, z, q1⟩, _, _⟩ := h1
  obtain ⟨bs, rfl, rfl⟩ := bools_of q1 hb
  refine cr_all hc pins s σ H _ us Q I r ⟨a, bs, rfl, sq_new ha, ?_⟩
  rw [← all_true]
  exact q.dat ok (.bl _)
theorem cr_anyE (hc : X.calm = true) : CallR X (.builtin "any") (PV1 X.K .any) := by
  intro pins s σ H vs us Q I r h
  obtain ⟨x, al, fz, st, r1, r0, st', rfl, ok, h1, e, q⟩ := pv1 h
  obtain ⟨xs, rfl, e⟩ := newL_ok e
  obtain ⟨hb, e⟩ := if_ok e
  cases e
  obtain ⟨a, rfl, ⟨ys, ha, z, q1⟩, _, _⟩ := h1
  obtain ⟨bs, rfl, rfl⟩ := bools_of q1 hb
  refine cr_any hc pins s σ H _ us Q I r ⟨a, bs, rfl, sq_new ha, ?_⟩
  rw [← any_true]
  exact q.dat ok (.bl _)
theorem cr_sumE (hc : X.calm = true) : CallR X (.builtin "sum") (PV1 X.K .sum) := by
  intro pins s σ H vs us Q I r h
  obtain ⟨x, al, fz, st, r1, r0, st', rfl, ok, h1, e, q⟩ := pv1 h
  obtain ⟨xs, rfl, e⟩ := newL_ok e
  obtain ⟨hb, e⟩ := if_ok e
  cases e
  obtain ⟨a, rfl, ⟨ys, ha, z, q1⟩, _, _⟩ := h1
  obtain ⟨bs, rfl, rfl⟩ := ints_of q1 hb
  refine cr_sum hc pins s σ H _ us Q I r ⟨a, bs, rfl, sq_new ha, ?_⟩
  have q' := q.dat ok (v := .int _) (.int _)
  rw [List.map_map, show theInt ∘ PyData.int = id from rfl, List.map_id] at q'
  exact q'
theorem cr_tupleE : CallR X (.type "tuple") (PV1 X.K .tuple) := by
  intro pins s σ H vs us Q I r h
  obtain ⟨x, al, fz, st, r1, r0, st', rfl, ok, h1, e, q⟩ := pv1 h
  have e : (match seqOf st r1 with | some xs => Rs.ok (R.d (.tuple xs)) st | none => .err) = .ok r0 st' := e
  split at e
  · rename_i xs hs
    cases e
    obtain ⟨a, ys, rfl, z, q1, hh⟩ := seqOf_ok ok h1 hs
    rcases hh with ⟨hh, _⟩ | ⟨hh, _⟩
    · exact call_tupleN pins s σ H _ us Q I r ⟨a, ys, rfl, .inl ⟨hh, fun p n => q.tup ok q1 z n⟩⟩
    · exact call_tupleN pins s σ H _ us Q I r ⟨a, ys, rfl, .inr ⟨.inl hh.rd, q.dat ok (.tup hh z q1)⟩⟩
  · cases e
theorem cr_listE : CallR X (.type "list") (PV1 X.K .list) := by
  intro pins s σ H vs us Q I r h
  obtain ⟨x, al, fz, st, r1, r0, st', rfl, ok, h1, e, q⟩ := pv1 h
  have e : (match seqOf st r1 with | some xs => Rs.ok (R.f (.lst xs)) st | none => .err) = .ok r0 st' := e
  split at e
  · rename_i xs hs
    cases e
    obtain ⟨a, ys, rfl, z, q1, hh⟩ := seqOf_ok ok h1 hs
    refine call_list_of pins s σ H _ us Q I r ⟨a, ys, rfl, ?_, fun p n => q.lst ok q1 z n⟩
    rcases hh with ⟨hh, _⟩ | ⟨hh, _⟩
    · exact .inl hh
    · exact .inr (.inl hh.rd)
  · cases e
theorem cr_intE : CallR X (.type "int") (PV1 X.K .int) := by
  intro pins s σ H vs us Q I r h
  obtain ⟨x, al, fz, st, r1, r0, st', rfl, ok, h1, e, q⟩ := pv1 h
  have e : (match r1 with | .d (.int a) => Rs.ok (R.d (.int a)) st | _ => .err) = .ok r0 st' := e
  split at e
  · cases e
    have := rp_int h1
    subst this
    exact call_int1 pins s σ H _ us Q I r (.inl ⟨_, rfl, q.dat ok (.int _)⟩)
  · cases e
theorem cr_strE : CallR X (.type "str") (PV1 X.K .str) := by
  intro pins s σ H vs us Q I r h
  obtain ⟨x, al, fz, st, r1, r0, st', rfl, ok, h1, e, q⟩ := pv1 h
  have e : (match r1 with | .d (.int a) => if a.natAbs < 1000000 ∧ okS (Str.ofString (toString a)) then Rs.ok (R.d (.str (Str.ofString (toString a)))) st else .err | _ => .err) = .ok r0 st' := e
  split at e
  · rename_i a _
    obtain ⟨hb, e⟩ := if_ok e
    cases e
    have := rp_int h1
    subst this
    refine call_str_int pins s σ H _ us Q I r ⟨_, rfl, ?_, q.dat ok (.str _ hb.2)⟩
    have h2 : a.natAbs.log2 ≤ a.natAbs := Nat.log2_le_self _
    by_cases h0 : a.natAbs = 0
    · rw [h0]
      decide
    · have := (Nat.log2_lt h0 (k := 20)).mpr (by omega)
      omega
  · cases e
/-- two arguments -/
def PV2 (K : PySem.W.Frag) (p : Prim) : List V → Hp → VK → Prop := fun vs H Q => PV K (primF p) vs H Q ∧ vs.length = 2
theorem pv2 {K : PySem.W.Frag} {p : Prim} {vs : List V} {H : Hp} {Q : VK} (h : PV2 K p vs H Q) : ∃ x y al fz st r1 r2 r st', vs = [x, y] ∧ Ok K al fz st H ∧ RR K al fz H x r1 ∧ RR K al fz H y r2 ∧ primF p [r1, r2] st = .ok r st' ∧ Post K al fz H r st' Q := by
  obtain ⟨⟨al, fz, st, rs, r0, st', ok, hr, e, q⟩, hl⟩ := h
  obtain ⟨x, y, rfl⟩ : ∃ x y, vs = [x, y] := by
    match vs, hl with
    | [x, y], _ => exact ⟨x, y, rfl⟩
  obtain ⟨r1, r2, rfl, h1, h2⟩ := paired2 hr
  exact ⟨x, y, al, fz, st, r1, r2, r0, st', rfl, ok, h1, h2, e, q⟩
theorem cr_max2E (hc : X.calm = true) : CallR X (.builtin "max") (PV2 X.K .max2) := by
  intro pins s σ H vs us Q I r h
  obtain ⟨x, y, al, fz, st, r1, r2, r0, st', rfl, ok, h1, h2, e, q⟩ := pv2 h
  obtain ⟨a, b, rfl, rfl, e⟩ := intF_ok e
  cases e
  rw [rp_int h1, rp_int h2] at r
  exact call_max2 hc pins s σ H _ us Q I r ⟨_, _, rfl, q.dat ok (.int _)⟩
theorem cr_min2E (hc : X.calm = true) : CallR X (.builtin "min") (PV2 X.K .min2) := by
  intro pins s σ H vs us Q I r h
  obtain ⟨x, y, al, fz, st, r1, r2, r0, st', rfl, ok, h1, h2, e, q⟩ := pv2 h
  obtain ⟨a, b, rfl, rfl, e⟩ := intF_ok e
  cases e
  rw [rp_int h1, rp_int h2] at r
  exact call_min2 hc pins s σ H _ us Q I r ⟨_, _, rfl, q.dat ok (.int _)⟩
end
end Ev

/-! Ev6: what new lists become; methods, subscripts, slices, comparisons -/
namespace Ev
open PySem PySem.Spec PyProof.Rows L2
/-- where the new objects stand -/
def frA : List V → List R → List Addr
  | .ref a :: vs, .f _ :: rs => a :: frA vs rs
  | _ :: vs, _ :: rs => frA vs rs
  | _, _ => []
/-- values that were worked out one behind the other, from H0 on -/
structure Ars (K : PySem.W.Frag) (al : List Addr) (fz : Addr → Prop) (H0 H : Hp) (vs : List V) (rs : List R) : Prop where
  rr : Paired (RR K al fz H) vs rs
  fr : ∀ a ∈ frA vs rs, H0 a = none
  nd : (frA vs rs).Nodup
section
variable {K : PySem.W.Frag} {al : List Addr} {fz fz0 fz1 fz' : Addr → Prop} {H H0 H1 H' : Hp} {st st' : List Ob} {v : V} {r : R} {vs : List V} {rs : List R} {Q : VK}
theorem Post.from (g : Go al fz0 H0 fz H) (q : Post K al fz0 H0 r st' Q) : Post K al fz H r st' Q := fun v H' fz' g' ok h fr => q v H' fz' (g.trans g') ok h (fr.back g)
theorem frA_f {a : Addr} {b : Ob} : frA (.ref a :: vs) (.f b :: rs) = a :: frA vs rs := rfl
theorem frA_other (h : ∀ a b, v = .ref a → r = .f b → False) : frA (v :: vs) (r :: rs) = frA vs rs := by
  cases v <;> cases r <;> first | rfl | exact (h _ _ rfl rfl).elim
theorem Ars.nil : Ars K al fz H0 H [] [] := ⟨.nil, fun _ h => (by cases h), List.nodup_nil⟩
theorem RR.there (h : RR K al fz H v r) {a : Addr} {b : Ob} (e1 : v = .ref a) (e2 : r = .f b) : H a ≠ none := by
  subst e2
  obtain ⟨a', e, q, _, _⟩ := h
  rw [e1] at e
  cases e
  exact q.some
theorem Ars.cons {st1 : List Ob} (ok1 : Ok K al fz1 st1 H1) (g0 : Go al fz0 H0 fz1 H1) (h : RR K al fz1 H1 v r) (f : Fresh H0 v r) (g : Go al fz1 H1 fz H) (t : Ars K al fz H1 H vs rs) : Ars K al fz H0 H (v :: vs) (r :: rs) := by
  have back : ∀ a ∈ frA vs rs, H0 a = none := fun a m => g0.back (t.fr a m)
  by_cases c : ∃ a b, v = .ref a ∧ r = .f b
  · obtain ⟨a, b, rfl, rfl⟩ := c
    refine ⟨.cons (h.kp ok1 g) t.rr, fun x m => ?_, ?_⟩
    · rcases List.mem_cons.mp m with rfl | m
      · exact f b _ rfl rfl
      · exact back x m
    · refine List.nodup_cons.mpr ⟨fun m => h.there rfl rfl (t.fr a m), t.nd⟩
  · have e : frA (v :: vs) (r :: rs) = frA vs rs := frA_other fun a b h1 h2 => c ⟨a, b, h1, h2⟩
    exact ⟨.cons (h.kp ok1 g) t.rr, by rw [e]; exact back, by rw [e]; exact t.nd⟩
theorem Ars.tail {v : V} {r : R} (t : Ars K al fz H0 H (v :: vs) (r :: rs)) : Ars K al fz H0 H vs rs := by
  cases t.rr with
  | cons h1 h2 =>
    by_cases c : ∃ a b, v = .ref a ∧ r = .f b
    · obtain ⟨a, b, rfl, rfl⟩ := c
      exact ⟨h2, fun x m => t.fr x (List.mem_cons_of_mem _ m), (List.nodup_cons.mp t.nd).2⟩
    · have e : frA (v :: vs) (r :: rs) = frA vs rs := frA_other fun a b h1 h2 => c ⟨a, b, h1, h2⟩
      have q1 := t.fr
      have q2 := t.nd
      rw [e] at q1 q2
      exact ⟨h2, q1, q2⟩
/-- the first value is a datum: a new list is fixed -/
theorem Ars.fix {d : D} (g : Go al fz0 H0 fz H) (ok : Ok K al fz st H) (t : Ars K al fz H0 H (v :: vs) (r :: rs)) (e : toD r = some d) :
    ∃ fz', Go al fz0 H0 fz' H ∧ Ok K al fz' st H ∧ Rp K H fz' v d ∧ Ars K al fz' H0 H vs rs ∧ Kp H fz H fz' := by
  have t' := t.tail
  cases t.rr with
  | cons h1 h2 =>
    cases r with
    | d x =>
      cases e
      exact ⟨fz, g, ok, h1, t', ⟨fun _ _ h => h, fun _ h => h, fun _ _ _ h => h, fun _ _ _ h => h⟩⟩
    | o i => cases e
    | f b =>
      obtain ⟨a, rfl, q, n, nf⟩ := h1
      cases b with
      | dic kvs => cases e
      | dit l kvs => cases e
      | lst ds =>
        cases e
        have h0 : H0 a = none := t.fr a List.mem_cons_self
        have na : a ∉ frA vs rs := (List.nodup_cons.mp t.nd).1
        have k : Kp H fz H (fzp fz a) := ⟨fun _ _ h => h, fun _ h => .inl h, fun _ _ _ h => h, fun _ _ _ h => h⟩
        refine ⟨fzp fz a, go_fix h0 g, ok.fix q n, q.fixed, ⟨?_, t'.fr, t'.nd⟩, k⟩
        have aux : ∀ {vs : List V} {rs : List R}, a ∉ frA vs rs → Paired (RR K al fz H) vs rs → Paired (RR K al (fzp fz a) H) vs rs := by
          intro vs rs hn hp
          induction hp with
          | nil => exact .nil
          | @cons v r vs rs h t ih =>
            have one : RR K al (fzp fz a) H v r := by
              cases r with
              | d x => exact Rp.kp k h
              | o i => exact h
              | f b =>
                obtain ⟨c, rfl, q2, n2, nf2⟩ := h
                refine ⟨c, rfl, q2.kp k rfl, n2, fun z => ?_⟩
                rcases z with z | rfl
                · exact nf2 z
                · exact hn List.mem_cons_self
            refine .cons one (ih fun m => hn ?_)
            by_cases c : ∃ a b, v = .ref a ∧ r = .f b
            · obtain ⟨c, b, rfl, rfl⟩ := c
              exact List.mem_cons_of_mem _ m
            · rw [frA_other fun a b h1 h2 => c ⟨a, b, h1, h2⟩]
              exact m
        exact aux na h2
/-- all values are data -/
theorem Ars.fixAll : ∀ {vs : List V} {rs : List R} {ds : List D} {fz : Addr → Prop}, Go al fz0 H0 fz H → Ok K al fz st H → Ars K al fz H0 H vs rs → toDs rs = some ds → ∃ fz', Go al fz0 H0 fz' H ∧ Ok K al fz' st H ∧ Rps K H fz' vs ds ∧ Kp H fz H fz'
  | [], rs, ds, fz, g, ok, t, e => by
    cases t.rr
    cases e
    exact ⟨fz, g, ok, .nil, ⟨fun _ _ h => h, fun _ h => h, fun _ _ _ h => h, fun _ _ _ h => h⟩⟩
  | v :: vs, rs, ds, fz, g, ok, t, e => by
    obtain ⟨r, rs', rfl⟩ : ∃ r rs', rs = r :: rs' := by
      cases t.rr
      exact ⟨_, _, rfl⟩
    have e : (match toD r, toDs rs' with | some d, some ds => some (d :: ds) | _, _ => none) = some ds := e
    cases e1 : toD r with
    | none =>
      rw [e1] at e
      cases e
    | some d =>
      cases e2 : toDs rs' with
      | none =>
        rw [e1, e2] at e
        cases e
      | some es =>
        rw [e1, e2] at e
        cases e
        obtain ⟨fz1, g1, ok1, h1, t1, k1⟩ := t.fix g ok e1
        obtain ⟨fz2, g2, ok2, h2, k2⟩ := Ars.fixAll g1 ok1 t1 e2
        exact ⟨fz2, g2, ok2, .cons (h1.kp k2) h2, ⟨fun _ _ h => h, fun a h => k2.sub a (k1.sub a h), fun _ _ _ h => h, fun _ _ _ h => h⟩⟩
end

/-- an operation on values that were worked out from H0 on -/
def PA0 (K : PySem.W.Frag) (p : List R → List Ob → Rs R) (vs : List V) (H : Hp) (Q : VK) : Prop :=
  ∃ al fz0 H0 fz st rs r st', Go al fz0 H0 fz H ∧ Ok K al fz st H ∧ Ars K al fz H0 H vs rs ∧ p rs st = .ok r st' ∧ Post K al fz0 H0 r st' Q
theorem PA0.pv {K : PySem.W.Frag} {p : List R → List Ob → Rs R} {vs : List V} {H : Hp} {Q : VK} (h : PA0 K p vs H Q) : PV K p vs H Q := by
  obtain ⟨al, fz0, H0, fz, st, rs, r, st', g, ok, t, e, q⟩ := h
  exact ⟨al, fz, st, rs, r, st', ok, t.rr, e, q.from g⟩

section
variable {X : Cx}
/-- an object of the store -/
theorem obj_at {K : PySem.W.Frag} {al : List Addr} {fz : Addr → Prop} {H : Hp} {st : List Ob} {v : V} {i : Nat} {xs : List D} (ok : Ok K al fz st H) (h : RR K al fz H v (.o i)) (e : st[i]? = some (.lst xs)) :
    ∃ a ys, v = .ref a ∧ al[i]? = some a ∧ H a = some (.lst ys) ∧ ys.length ≤ sizeLine ∧ Rps K H fz ys xs := by
  obtain ⟨a, rfl, ha⟩ := h
  obtain ⟨b, hb, r⟩ := ok.get ha
  rw [e] at hb
  cases hb
  obtain ⟨ys, h1, h2, h3⟩ := r
  exact ⟨a, ys, rfl, ha, h1, h2, h3⟩
/-- a method: the receiver, the arguments -/
def MV (K : PySem.W.Frag) (p : Prim) : V → List V → Hp → VK → Prop := fun x xs H Q => PA0 K (primF p) (x :: xs) H Q ∧ xs.length = 1
theorem mv_of {K : PySem.W.Frag} {p : Prim} {x : V} {xs : List V} {H : Hp} {Q : VK} (h : MV K p x xs H Q) :
    ∃ y al fz0 H0 fz st r1 r2 r st', xs = [y] ∧ Go al fz0 H0 fz H ∧ Ok K al fz st H ∧ Ars K al fz H0 H [x, y] [r1, r2] ∧ RR K al fz H x r1 ∧ RR K al fz H y r2 ∧ primF p [r1, r2] st = .ok r st' ∧ Post K al fz0 H0 r st' Q := by
  obtain ⟨⟨al, fz0, H0, fz, st, rs, r0, st', g, ok, t, e, q⟩, hl⟩ := h
  obtain ⟨y, rfl⟩ : ∃ y, xs = [y] := by
    match xs, hl with
    | [y], _ => exact ⟨y, rfl⟩
  obtain ⟨r1, r2, rfl, h1, h2⟩ := paired2 t.rr
  exact ⟨y, al, fz0, H0, fz, st, r1, r2, r0, st', rfl, g, ok, t, h1, h2, e, q⟩
/-- a list of the store is written, from H0 on -/
theorem Post.wlst {K : PySem.W.Frag} {al : List Addr} {fz fz0 : Addr → Prop} {H H0 : Hp} {st : List Ob} {v : V} {r : R} {Q : VK} {i : Nat} {a : Addr} {xs ys : List V} {ds es : List D} (q : Post K al fz0 H0 r (st.set i (.lst es)) Q) (g0 : Go al fz0 H0 fz H) (ok : Ok K al fz st H) (hi : al[i]? = some a) (ha : H a = some (.lst xs))
    (z : ys.length ≤ sizeLine) (hy : Rps K H fz ys es) (hr : ∀ H', Kp H fz H' fz → RR K al fz H' v r) (fr : Fresh H0 v r) : Q v (upd H a (.lst ys)) := by
  have m : a ∈ al := List.mem_of_getElem? hi
  have g : Go al fz H fz (upd H a (.lst ys)) := go_upd m fun q u e => by rw [ha] at e; cases e
  exact q v _ fz (g0.trans g) (ok.upd hi ⟨ys, upd_same, z, hy.kp (ok.kp g)⟩) (hr _ (ok.kp g)) fr
theorem mt_appendE : MtR X "list.append" (MV X.K .append) := by
  intro pins s σ H x xs v us Q I rx rxs h
  obtain ⟨y, al, fz0, H0, fz, st, r1, r2, r0, st', rfl, g, ok, t, h1, h2, e, q⟩ := mv_of h
  obtain ⟨i, ds, rfl, hs, e⟩ := objL_ok e
  split at e
  · rename_i d hd
    obtain ⟨hz, e⟩ := if_ok e
    cases e
    obtain ⟨a, ys, rfl, ha, hH, z, q1⟩ := obj_at ok h1 hs
    obtain ⟨fz', g', ok', hd', _, k⟩ := t.tail.fix g ok hd
    have hl : ys.length < sizeLine := by
      rw [q1.len]
      exact Nat.lt_of_lt_of_le hz (by decide)
    refine mt_append pins s σ H _ _ v us Q I rx rxs ⟨a, ys, y, rfl, rfl, hH, hl, ?_⟩
    exact q.wlst g' ok' ha hH (xs := ys) (ds := ds) (by rw [List.length_append]; exact hl) ((q1.kp k).append (.cons hd' .nil)) (fun _ _ => .non) Fresh.d
  · cases e
theorem mt_extendE : MtR X "list.extend" (MV X.K .extend) := by
  intro pins s σ H x xs v us Q I rx rxs h
  obtain ⟨y, al, fz0, H0, fz, st, r1, r2, r0, st', rfl, g, ok, t, h1, h2, e, q⟩ := mv_of h
  obtain ⟨i, ds, rfl, hs, e⟩ := objL_ok e
  obtain ⟨es, rfl, e⟩ := newL_ok e
  obtain ⟨hz, e⟩ := if_ok e
  cases e
  obtain ⟨a, ys, rfl, ha, hH, z, q1⟩ := obj_at ok h1 hs
  obtain ⟨b, rfl, ⟨zs, hb, z2, q2⟩, _, _⟩ := h2
  have hl : ys.length + zs.length ≤ sizeLine := by
    rw [q1.len, q2.len]
    exact size_ok hz
  refine mt_extend pins s σ H _ _ v us Q I rx rxs ⟨a, b, ys, zs, rfl, rfl, hH, hb, hl, ?_⟩
  exact q.wlst g ok ha hH (xs := ys) (ds := ds) (by rw [List.length_append]; exact hl) (q1.append q2) (fun _ _ => .non) Fresh.d
theorem mt_popE : MtR X "list.pop" (MV X.K .pop) := by
  intro pins s σ H x xs v us Q I rx rxs h
  obtain ⟨y, al, fz0, H0, fz, st, r1, r2, r0, st', rfl, g, ok, t, h1, h2, e, q⟩ := mv_of h
  obtain ⟨i, ds, rfl, hs, e⟩ := objL_ok e
  split at e
  · rename_i k _
    split at e
    · rename_i d hd
      obtain ⟨hz, e⟩ := if_ok e
      cases e
      obtain ⟨a, ys, rfl, ha, hH, z, q1⟩ := obj_at ok h1 hs
      obtain ⟨w, hw, rw'⟩ := q1.at hd
      have := rp_int h2
      subst this
      have hlt : k.toNat < ys.length := (List.getElem?_eq_some_iff.mp hw).1
      have hl63 := line63
      refine mt_popAt pins s σ H _ _ v us Q I rx rxs ⟨a, ys, k, k.toNat, w, rfl, rfl, hH, by omega, by omega, ?_, hw, ?_⟩
      · unfold seqIndex?
        have e1 : ¬ k < 0 := by omega
        simp only [if_neg e1]
        first
          | rw [if_pos (by omega)]
          | (rw [if_neg (by omega)])
          | simp; omega
      · exact q.wlst g ok ha hH (xs := ys) (ds := ds) (Nat.le_trans (by rw [List.length_eraseIdx]; split <;> omega) z) (q1.erase _) (fun _ k => rw'.kp k) Fresh.d
    · cases e
  · cases e
theorem joinL_nil : ∀ ps : List (List Nat), TL.joinL [] ps = ps.flatten
  | [] => rfl
  | [p] => by simp [TL.joinL]
  | p :: q :: r => by
    have h := joinL_nil (q :: r)
    simp only [TL.joinL, List.nil_append, List.flatten_cons] at h ⊢
    rw [h]
theorem join_strs (z : Str) (hz : z.length = 0) (bs : List Str) : (Txt.join z bs).cps.toList = (bs.map fun x => x.cps.toList).flatten := by
  have e0 : TL.tl z = [] := List.eq_nil_of_length_eq_zero (by
    rw [← hz]
    show z.cps.toList.length = z.cps.size
    simp)
  have := congrArg TL.tl (TL.join_eq z bs)
  rw [TL.tl_join, e0, joinL_nil] at this
  exact this
theorem sum_strs : ∀ bs : List Str, (∀ b ∈ bs, okS b = true) → (bs.map (·.length)).sum ≤ bs.length * 1000
  | [], _ => by simp
  | b :: bs, hb => by
    have h1 := okS_len (hb b List.mem_cons_self)
    have h2 := sum_strs bs fun c hc => hb c (List.mem_cons_of_mem _ hc)
    simp only [List.map_cons, List.sum_cons, List.length_cons]
    omega
theorem mt_joinE : MtR X "str.join" (MV X.K .join) := by
  intro pins s σ H x xs v us Q I rx rxs h
  obtain ⟨y, al, fz0, H0, fz, st, r1, r2, r0, st', rfl, g, ok, t, h1, h2, e, q⟩ := mv_of h
  have e : joinF r1 r2 st = .ok r0 st' := e
  unfold joinF at e
  split at e
  · rename_i z _
    split at e
    · rename_i ds hd
      obtain ⟨⟨hz, hs, hn, ho⟩, e⟩ := if_ok e
      cases e
      obtain ⟨p, ys, rfl, sq, zl, q1⟩ := lstOf_ok ok h2 hd
      obtain ⟨bs, rfl, rfl, hb⟩ := strs_of q1 hs
      obtain ⟨rfl, _⟩ := rp_str h1
      have hlen := sum_strs bs hb
      have hn' : bs.length ≤ 100 := by simpa using hn
      refine mt_join pins s σ H _ _ v us Q I rx rxs ⟨z, p, bs, rfl, rfl, .inl sq, ?_, ?_⟩
      · rw [hz]
        omega
      · have ej : Txt.join z bs = ⟨(((bs.map PyData.str).map fun x => (theStr x).cps.toList).flatten).toArray⟩ := by
          rw [List.map_map]
          have := join_strs z hz bs
          have e2 : ((fun x => (theStr x).cps.toList) ∘ PyData.str) = fun x : Str => x.cps.toList := rfl
          rw [e2, ← this]
        rw [ej]
        exact (q.from g).dat ok (.str _ ho)
    · cases e
  · cases e
end
end Ev

/-! Ev7: comparisons, subscripts, slices, isinstance -/
namespace Ev
open PySem PySem.Spec PyProof.Rows L2
theorem okB_ok {b : Bool} {st st' : List Ob} {r : R} (e : okB b st = .ok r st') : r = .d (.bool b) ∧ st' = st := by
  cases e
  exact ⟨rfl, rfl⟩
theorem bothD_ok {st st' : List Ob} {x y r : R} {k : D → D → Rs R} (e : bothD st x y k = .ok r st') : ∃ a b, nowD st x = some a ∧ nowD st y = some b ∧ k a b = .ok r st' := by
  unfold bothD at e
  split at e
  · exact ⟨_, _, by assumption, by assumption, e⟩
  · cases e
/-- a comparison by values -/
def CV (K : PySem.W.Frag) (o : Cmp) : R2 := fun x y H Q => PV K (fun rs st => match rs with | [a, b] => cmpF o a b st | _ => .err) [x, y] H Q
theorem cv_of {K : PySem.W.Frag} {o : Cmp} {x y : V} {H : Hp} {Q : VK} (h : CV K o x y H Q) : ∃ al fz st r1 r2 r st', Ok K al fz st H ∧ RR K al fz H x r1 ∧ RR K al fz H y r2 ∧ cmpF o r1 r2 st = .ok r st' ∧ Post K al fz H r st' Q := by
  obtain ⟨al, fz, st, rs, r0, st', ok, hr, e, q⟩ := h
  obtain ⟨r1, r2, rfl, h1, h2⟩ := paired2 hr
  exact ⟨al, fz, st, r1, r2, r0, st', ok, h1, h2, e, q⟩
section
variable {X : Cx}
theorem depth_room {d e : D} (hu : X.A.units + 200 < cLine) (h : depthOk d e = true) : X.A.units + min d.depth e.depth < cLine := by
  have := of_decide_eq_true h
  omega
theorem op_eqE (hu : X.A.units + 200 < cLine) : OpR X (compareOp .Eq) (CV X.K .eq) := by
  intro pins s σ H x y v u Q I rx ry h
  obtain ⟨al, fz, st, r1, r2, r0, st', ok, h1, h2, e, q⟩ := cv_of h
  obtain ⟨a, b, e1, e2, e⟩ := bothD_ok e
  obtain ⟨hd, e⟩ := if_ok e
  obtain ⟨rfl, rfl⟩ := okB_ok e
  obtain ⟨p1, l1⟩ := nowD_ok ok h1 e1
  obtain ⟨p2, l2⟩ := nowD_ok ok h2 e2
  obtain ⟨as, t1⟩ := Dp.reads I a x v p1 rx
  obtain ⟨bs, t2⟩ := Dp.reads I b y u p2 ry
  exact SeqAt.compareEq_reads t1 t2 l1 l2 (depth_room hu hd) ⟨.bl _, H, I, rfl, q.dat ok (.bl _)⟩
theorem op_neE (hu : X.A.units + 200 < cLine) : OpR X (compareOp .NotEq) (CV X.K .ne) := by
  intro pins s σ H x y v u Q I rx ry h
  obtain ⟨al, fz, st, r1, r2, r0, st', ok, h1, h2, e, q⟩ := cv_of h
  obtain ⟨a, b, e1, e2, e⟩ := bothD_ok e
  obtain ⟨hd, e⟩ := if_ok e
  obtain ⟨rfl, rfl⟩ := okB_ok e
  obtain ⟨p1, l1⟩ := nowD_ok ok h1 e1
  obtain ⟨p2, l2⟩ := nowD_ok ok h2 e2
  obtain ⟨as, t1⟩ := Dp.reads I a x v p1 rx
  obtain ⟨bs, t2⟩ := Dp.reads I b y u p2 ry
  exact SeqAt.compareNe_reads t1 t2 l1 l2 (depth_room hu hd) ⟨.bl _, H, I, rfl, q.dat ok (.bl _)⟩
theorem op_leE : OpR X (compareOp .LtE) (CV X.K .le) := by
  intro pins s σ H x y v u Q I rx ry h
  obtain ⟨al, fz, st, r1, r2, r0, st', ok, h1, h2, e, q⟩ := cv_of h
  have e : (match r1, r2 with | .d (.int a), .d (.int b) => okB (decide (a ≤ b)) st | _, _ => .err) = .ok r0 st' := e
  split at e
  · cases e
    exact op_le pins s σ H x y v u Q I rx ry ⟨_, _, rp_int h1, rp_int h2, q.dat ok (.bl _)⟩
  · cases e
theorem op_gtE : OpR X (compareOp .Gt) (CV X.K .gt) := by
  intro pins s σ H x y v u Q I rx ry h
  obtain ⟨al, fz, st, r1, r2, r0, st', ok, h1, h2, e, q⟩ := cv_of h
  have e : (match r1, r2 with | .d (.int a), .d (.int b) => okB (decide (b < a)) st | _, _ => .err) = .ok r0 st' := e
  split at e
  · cases e
    exact op_gt pins s σ H x y v u Q I rx ry ⟨_, _, rp_int h1, rp_int h2, q.dat ok (.bl _)⟩
  · cases e
theorem op_geE : OpR X (compareOp .GtE) (CV X.K .ge) := by
  intro pins s σ H x y v u Q I rx ry h
  obtain ⟨al, fz, st, r1, r2, r0, st', ok, h1, h2, e, q⟩ := cv_of h
  have e : (match r1, r2 with | .d (.int a), .d (.int b) => okB (decide (b ≤ a)) st | _, _ => .err) = .ok r0 st' := e
  split at e
  · cases e
    exact op_ge pins s σ H x y v u Q I rx ry ⟨_, _, rp_int h1, rp_int h2, q.dat ok (.bl _)⟩
  · cases e
theorem non_or {K : PySem.W.Frag} {al : List Addr} {fz : Addr → Prop} {H : Hp} {x : V} {r : R} (h : RR K al fz H x r) : decide (x = V.non) = isNon r := by
  cases r with
  | d z => cases h <;> rfl
  | o i =>
    obtain ⟨a, rfl, _⟩ := h
    rfl
  | f b =>
    obtain ⟨a, rfl, _⟩ := h
    rfl
theorem op_isNE : OpR X (compareOp .Is) (fun x y H Q => y = .non ∧ CV X.K .isN x y H Q) := by
  intro pins s σ H x y v u Q I rx ry h
  obtain ⟨ey, h⟩ := h
  obtain ⟨al, fz, st, r1, r2, r0, st', ok, h1, h2, e, q⟩ := cv_of h
  obtain ⟨rfl, rfl⟩ := okB_ok e
  rw [← non_or h1] at q
  exact op_isN pins s σ H x y v u Q I rx ry ⟨ey, q.dat ok (.bl _)⟩
theorem op_notNE : OpR X (compareOp .IsNot) (fun x y H Q => y = .non ∧ CV X.K .notN x y H Q) := by
  intro pins s σ H x y v u Q I rx ry h
  obtain ⟨ey, h⟩ := h
  obtain ⟨al, fz, st, r1, r2, r0, st', ok, h1, h2, e, q⟩ := cv_of h
  obtain ⟨rfl, rfl⟩ := okB_ok e
  rw [← non_or h1] at q
  exact op_notN pins s σ H x y v u Q I rx ry ⟨ey, q.dat ok (.bl _)⟩
/-! ### keys -/
theorem key_eqv {a b : D} {p q : Key} (h1 : keyD a = some p) (h2 : keyD b = some q) : PyData.eqv a b = decide (p = q) := by
  cases a <;> cases h1 <;> cases b <;> cases h2 <;> first | rfl | skip
  · rename_i i j
    show decide (i = j) = _
    by_cases e : i = j
    · subst e
      simp
    · have : ¬ (Sum.inl i : Key) = Sum.inl j := fun h => e (Sum.inl.inj h)
      simp [e]
  · rename_i i j
    show (i == j) = _
    by_cases e : i = j
    · subst e
      simp
    · simp [e]
theorem key_kV {K : PySem.W.Frag} {H : Hp} {fz : Addr → Prop} {v : V} {d : D} {k : Key} (h : Rp K H fz v d) (e : keyD d = some k) : v = kV k := by
  cases h <;> cases e <;> rfl
theorem dget_val {K : PySem.W.Frag} {H : Hp} {fz : Addr → Prop} {k : D} {p : Key} (hk : keyD k = some p) : ∀ {ks : List (Key × V)} {kvs : List (D × D)}, Paired (PairK K H fz) ks kvs →
    (match dget kvs k with | some d => ∃ v, valV ks p = some v ∧ Rp K H fz v d | none => valV ks p = none)
  | _, _, .nil => rfl
  | x :: ks, y :: kvs, .cons h t => by
    have ih := dget_val hk t
    have e := key_eqv h.1 hk
    unfold dget valV at *
    rw [List.find?_cons, List.find?_cons, e]
    by_cases c : x.1 = p
    · simp only [c, decide_true]
      exact ⟨_, rfl, h.2.2⟩
    · simp only [c, decide_false]
      exact ih
theorem dget_some {K : PySem.W.Frag} {H : Hp} {fz : Addr → Prop} {k : D} {p : Key} (hk : keyD k = some p) {ks : List (Key × V)} {kvs : List (D × D)} (h : Paired (PairK K H fz) ks kvs) : (valV ks p).isSome = (dget kvs k).isSome := by
  have := dget_val hk h
  split at this
  · rename_i d e
    obtain ⟨v, e2, _⟩ := this
    rw [e, e2]
    rfl
  · rename_i e
    rw [e, this]
    rfl
theorem dput_put {K : PySem.W.Frag} {H : Hp} {fz : Addr → Prop} {k d : D} {p : Key} {v : V} (hk : keyD k = some p) (hv : Rp K H fz v d) (hkv : Rp K H fz (kV p) k) {ks : List (Key × V)} {kvs : List (D × D)} (h : Paired (PairK K H fz) ks kvs) :
    Paired (PairK K H fz) (putK ks p v) (dput kvs k d) := by
  have e1 : (ks.any fun kv => decide (kv.1 = p)) = kvs.any fun q => PyData.eqv q.1 k := by
    clear hv hkv
    induction h with
    | nil => rfl
    | cons h t ih => rw [List.any_cons, List.any_cons, ih, key_eqv h.1 hk]
  unfold putK dput
  rw [e1]
  split
  · rename_i hc
    clear hc e1
    induction h with
    | nil => exact .nil
    | @cons x y _ _ h t ih =>
      refine .cons ?_ ih
      show PairK K H fz (if x.1 = p then (x.1, v) else x) (if PyData.eqv y.1 k = true then (y.1, d) else y)
      rw [key_eqv h.1 hk]
      by_cases c : x.1 = p
      · simp only [c, decide_true, if_true]
        exact ⟨by rw [← c]; exact h.1, by rw [← c]; exact h.2.1, hv⟩
      · simp only [c, decide_false, if_false, Bool.false_eq_true]
        exact h
  · exact paired_app h (.cons ⟨hk, hkv, hv⟩ .nil)
theorem dput_len (kvs : List (D × D)) (k d : D) : (dput kvs k d).length ≤ kvs.length + 1 := by
  unfold dput
  split
  · rw [List.length_map]
    omega
  · simp
theorem key_of_isSome {d : D} (h : (keyD d).isSome = true) : ∃ p, keyD d = some p := Option.isSome_iff_exists.mp h
/-! ### keys that are tuples -/
theorem keyTs_kV {K : PySem.W.Frag} {H : Hp} {fz : Addr → Prop} : ∀ {xs : List V} {ds : List D} {ks : List Key}, Rps K H fz xs ds → keyTs ds = some ks → xs = ks.map kV
  | _, _, _, .nil, e => by cases e; rfl
  | _, d :: ds, _, .cons h1 h2, e => by
    rw [keyTs] at e
    cases e1 : keyD d with
    | none => rw [e1] at e; cases e
    | some k =>
      cases e2 : keyTs ds with
      | none => rw [e1, e2] at e; cases e
      | some ks =>
        rw [e1, e2] at e
        cases e
        rw [key_kV h1 e1, keyTs_kV h2 e2]
        rfl
theorem keyTs_eqv : ∀ {a b : List D} {p q : List Key}, keyTs a = some p → keyTs b = some q → PyData.eqvAll a b = decide (p = q)
  | [], [], _, _, h1, h2 => by cases h1; cases h2; rfl
  | [], y :: ys, _, _, h1, h2 => by
    cases h1
    rw [keyTs] at h2
    split at h2
    · cases h2; rfl
    · cases h2
  | x :: xs, [], _, _, h1, h2 => by
    cases h2
    rw [keyTs] at h1
    split at h1
    · cases h1; rfl
    · cases h1
  | x :: xs, y :: ys, _, _, h1, h2 => by
    rw [keyTs] at h1 h2
    split at h1
    · split at h2
      · rename_i k ks e1 e2 _ _ j js f1 f2
        cases h1
        cases h2
        rw [PyData.eqvAll, key_eqv e1 f1, keyTs_eqv e2 f2]
        by_cases c : k = j
        · subst c; simp
        · simp [c]
      · cases h2
    · cases h1
theorem keyT_of {d : D} (h : (keyT d).isSome = true) : ∃ ds p, d = .tuple ds ∧ keyTs ds = some p ∧ p ≠ [] := by
  obtain ⟨p, e⟩ := Option.isSome_iff_exists.mp h
  cases d with
  | tuple ds =>
    cases ds with
    | nil => cases e
    | cons d ds =>
      refine ⟨_, p, rfl, e, fun c => ?_⟩
      subst c
      have e : keyTs (d :: ds) = some [] := e
      unfold keyTs at e
      split at e <;> cases e
  | _ => cases e
theorem dget_valT {K : PySem.W.Frag} {H : Hp} {fz : Addr → Prop} {k : List D} {p : List Key} (hk : keyTs k = some p) : ∀ {ks : List (List Key × V)} {kvs : List (D × D)}, Paired (PairT K H fz) ks kvs →
    (match dget kvs (.tuple k) with | some d => ∃ v, valV ks p = some v ∧ Rp K H fz v d | none => valV ks p = none)
  | _, _, .nil => rfl
  | x :: ks, y :: kvs, .cons h t => by
    have ih := dget_valT hk t
    obtain ⟨ds, h1, h2, h3, h4, h5⟩ := h
    have e : PyData.eqv y.1 (.tuple k) = decide (x.1 = p) := by rw [h1, PyData.eqv, keyTs_eqv h2 hk]
    unfold dget valV at *
    rw [List.find?_cons, List.find?_cons, e]
    by_cases c : x.1 = p
    · simp only [c, decide_true]
      exact ⟨_, rfl, h5⟩
    · simp only [c, decide_false]
      exact ih
theorem dget_someT {K : PySem.W.Frag} {H : Hp} {fz : Addr → Prop} {k : List D} {p : List Key} (hk : keyTs k = some p) {ks : List (List Key × V)} {kvs : List (D × D)} (h : Paired (PairT K H fz) ks kvs) : (valV ks p).isSome = (dget kvs (.tuple k)).isSome := by
  have := dget_valT hk h
  split at this
  · rename_i d e
    obtain ⟨v, e2, _⟩ := this
    rw [e, e2]
    rfl
  · rename_i e
    rw [e, this]
    rfl
theorem dput_putT {K : PySem.W.Frag} {H : Hp} {fz : Addr → Prop} {k : List D} {d : D} {p : List Key} {v : V} (hk : keyTs k = some p) (hz : KeyLen p) (hv : Rp K H fz v d) (hkv : Rps K H fz (p.map kV) k) {ks : List (List Key × V)} {kvs : List (D × D)} (h : Paired (PairT K H fz) ks kvs) :
    Paired (PairT K H fz) (putK ks p v) (dput kvs (.tuple k) d) := by
  have eq : ∀ {x : List Key × V} {y : D × D}, PairT K H fz x y → PyData.eqv y.1 (.tuple k) = decide (x.1 = p) := fun {x y} h => by
    obtain ⟨ds, h1, h2, _⟩ := h
    rw [h1, PyData.eqv, keyTs_eqv h2 hk]
  have e1 : (ks.any fun kv => decide (kv.1 = p)) = kvs.any fun q => PyData.eqv q.1 (.tuple k) := by
    clear hv hkv
    induction h with
    | nil => rfl
    | cons h t ih => rw [List.any_cons, List.any_cons, ih, eq h]
  unfold putK dput
  rw [e1]
  split
  · rename_i hc
    clear hc e1
    induction h with
    | nil => exact .nil
    | @cons x y _ _ h t ih =>
      refine .cons ?_ ih
      show PairT K H fz (if x.1 = p then (x.1, v) else x) (if PyData.eqv y.1 (.tuple k) = true then (y.1, d) else y)
      rw [eq h]
      by_cases c : x.1 = p
      · simp only [c, decide_true, if_true]
        obtain ⟨ds, h1, h2, h3, h4, _⟩ := h
        rw [c] at h2 h3 h4
        exact ⟨ds, h1, h2, h3, h4, hv⟩
      · simp only [c, decide_false, if_false, Bool.false_eq_true]
        exact h
  · exact paired_app h (.cons ⟨k, rfl, hk, hz, hkv, hv⟩ .nil)
/-- a tuple that is a key -/
theorem key_tup {K : PySem.W.Frag} {H : Hp} {fz : Addr → Prop} {v : V} {ds : List D} {p : List Key} (h : Rp K H fz v (.tuple ds)) (e : keyTs ds = some p) (n : p ≠ []) : ∃ b, v = .ref b ∧ H b = some (.tup (p.map kV)) ∧ KeyLen p ∧ Rps K H fz (p.map kV) ds := by
  obtain ⟨b, xs, rfl, h1, h2, h3⟩ := rp_tup h
  cases keyTs_kV h3 e
  have h1 : H b = some (.tup (p.map kV)) := by
    rcases h1 with ⟨_, h1⟩ | ⟨c, _⟩
    · exact h1
    · rw [keyTs_sub e n] at c
      cases c
  exact ⟨b, rfl, h1, ⟨by simpa using h2, n⟩, h3⟩
theorem dgetT_of {H : Hp} {a b : Addr} {ks : List (List Key × V)} {p : List Key} (h : Rd H a (.dT ks)) (hb : H b = some (.tup (p.map kV))) : DGet H a (.ref b) (valV ks p) := .inr ⟨ks, p, b, h, rfl, hb, rfl⟩
theorem depth_in {d : D} {xs : List D} (hu : X.A.units + 200 < cLine) (h : depthOk d (.list xs) = true) : X.A.units + 1 + min (PyData.depthAll xs) d.depth < cLine := by
  have := of_decide_eq_true h
  have e : (PyData.list xs).depth = PyData.depthAll xs + 1 ∨ (PyData.list xs).depth = 1 + PyData.depthAll xs := by
    first | exact .inl rfl | exact .inr rfl | (unfold PyData.depth; simp [Nat.add_comm])
  omega
theorem one_sign {c : Str} (hl : c.length = 1) : ∃ k, c = ⟨#[k]⟩ := by
  obtain ⟨⟨l⟩⟩ := c
  match l, hl with
  | [k], _ => exact ⟨k, rfl⟩
/-- in, not in -/
def inG (neg : Bool) (x y : R) (st : List Ob) : Rs R := cmpF.inF x y st neg
theorem inF_ok (hu : X.A.units + 200 < cLine) (neg : Bool) {pins : List (Addr × Obj)} {s : Shared} {σ : L2.St} {H : Hp} {x y : V} {v u : Value} {Q : VK} (I : L2.Inv X pins σ H s) (rx : L2.RelV x v) (ry : L2.RelV y u)
    {al : List Addr} {fz : Addr → Prop} {st st' : List Ob} {r1 r2 r0 : R} (ok : Ok X.K al fz st H) (h1 : RR X.K al fz H x r1) (h2 : RR X.K al fz H y r2) (e : cmpF.inF r1 r2 st neg = .ok r0 st') (q : Post X.K al fz H r0 st' Q) :
    wpAny (model X.prog X.w) X.A (compareOp (if neg then .NotIn else .In) v u) (EP X pins σ Q) X.xe s := by
  unfold cmpF.inF at e
  split at e
  · rename_i a
    have h1 : Rp X.K H fz x a := h1
    split at e
    · rename_i kvs hk
      obtain ⟨hs, e⟩ := if_ok e
      obtain ⟨rfl, rfl⟩ := okB_ok e
      obtain ⟨p, hp⟩ := key_of_isSome hs
      obtain ⟨b, ks, rfl, hH, z, pr⟩ := dicOf_ok ok h2 hk
      have ex := key_kV h1 hp
      cases ry
      have eS := dget_some hp pr
      rw [← eS] at q
      have g : DGet H b x (valV ks p) := by
        rw [ex]
        exact .k hH
      cases neg with
      | false => exact d_in (by omega) I g rx fun s3 I3 => ⟨.bl _, H, I3, rfl, q.dat ok (by simpa using Rp.bl _)⟩
      | true => exact d_notIn (by omega) I g rx fun s3 I3 => ⟨.bl _, H, I3, rfl, q.dat ok (by simpa using Rp.bl _)⟩
    · split at e
      · rename_i xs hxs
        obtain ⟨hd, e⟩ := if_ok e
        obtain ⟨rfl, rfl⟩ := okB_ok e
        obtain ⟨b, ys, rfl, z, pr, w⟩ := seqOf_ok ok h2 hxs
        obtain ⟨bs, t1⟩ := Dp.reads I a x v h1.dp rx
        have lay := pr.lay
        rcases w with ⟨w, _⟩ | ⟨w, _⟩
        · obtain ⟨as, t2⟩ := Dp.reads I (.list xs) _ _ (Dp.lst w pr.dp) ry
          cases neg with
          | false => exact SeqAt.in_list_reads t2 t1 lay h1.lay (depth_in hu hd) ⟨.bl _, H, I, rfl, q.dat ok (by simpa using Rp.bl _)⟩
          | true => exact SeqAt.notIn_list_reads t2 t1 lay h1.lay (depth_in hu hd) ⟨.bl _, H, I, rfl, q.dat ok (by simpa using Rp.bl _)⟩
        · obtain ⟨as, t2⟩ := Dp.reads I (.tuple xs) _ _ (Dp.tup (.inl w.rd) pr.dp) ry
          cases neg with
          | false => exact SeqAt.in_tuple_reads t2 t1 lay h1.lay (depth_in hu hd) ⟨.bl _, H, I, rfl, q.dat ok (by simpa using Rp.bl _)⟩
          | true => exact SeqAt.notIn_tuple_reads t2 t1 lay h1.lay (depth_in hu hd) ⟨.bl _, H, I, rfl, q.dat ok (by simpa using Rp.bl _)⟩
      · split at e
        · obtain ⟨hl, e⟩ := if_ok e
          obtain ⟨rfl, rfl⟩ := okB_ok e
          obtain ⟨rfl, _⟩ := rp_str h1
          obtain ⟨rfl, _⟩ := rp_str h2
          obtain ⟨k, rfl⟩ := one_sign hl
          cases neg with
          | false => exact op_in_sign pins s σ H _ _ v u Q I rx ry ⟨k, _, rfl, rfl, q.dat ok (by simpa using Rp.bl _)⟩
          | true => exact op_notIn_sign pins s σ H _ _ v u Q I rx ry ⟨k, _, rfl, rfl, q.dat ok (by simpa using Rp.bl _)⟩
        · unfold inT at e
          split at e
          · rename_i kvs hk
            obtain ⟨hs, e⟩ := if_ok e
            obtain ⟨rfl, rfl⟩ := okB_ok e
            obtain ⟨ds, p, rfl, hp, hpn⟩ := keyT_of hs
            obtain ⟨b, ks, rfl, hH, z, pr⟩ := ditOf_ok ok h2 hk
            obtain ⟨c, rfl, hc, _⟩ := key_tup h1 hp hpn
            cases ry
            have eS := dget_someT hp pr
            rw [← eS] at q
            have g := dgetT_of hH hc
            cases neg with
            | false => exact d_in (by omega) I g rx fun s3 I3 => ⟨.bl _, H, I3, rfl, q.dat ok (by simpa using Rp.bl _)⟩
            | true => exact d_notIn (by omega) I g rx fun s3 I3 => ⟨.bl _, H, I3, rfl, q.dat ok (by simpa using Rp.bl _)⟩
          · cases e
  · cases e
theorem op_inE (hu : X.A.units + 200 < cLine) : OpR X (compareOp .In) (CV X.K .isin) := by
  intro pins s σ H x y v u Q I rx ry h
  obtain ⟨al, fz, st, r1, r2, r0, st', ok, h1, h2, e, q⟩ := cv_of h
  exact inF_ok hu false I rx ry ok h1 h2 e q
theorem op_notinE (hu : X.A.units + 200 < cLine) : OpR X (compareOp .NotIn) (CV X.K .notin) := by
  intro pins s σ H x y v u Q I rx ry h
  obtain ⟨al, fz, st, r1, r2, r0, st', ok, h1, h2, e, q⟩ := cv_of h
  exact inF_ok hu true I rx ry ok h1 h2 e q
/-! ### subscripts -/
theorem okS_of {x : Str} (h1 : ∀ c ∈ x.cps.toList, c < 0x110000) (h2 : x.length ≤ 1000) : okS x = true := by
  refine Bool.and_eq_true_iff.mpr ⟨?_, decide_eq_true h2⟩
  show x.cps.all _ = true
  rw [← Array.all_toList, List.all_eq_true]
  exact fun c hc => decide_eq_true (h1 c hc)
theorem okS_mem {x : Str} (h : okS x = true) : ∀ c ∈ x.cps.toList, c < 0x110000 := by
  have h1 : x.cps.all (· < 0x110000) = true := (Bool.and_eq_true_iff.mp h).1
  rw [← Array.all_toList, List.all_eq_true] at h1
  exact fun c hc => of_decide_eq_true (h1 c hc)
theorem ix_dict (hu : X.A.units + 1 < cLine) : IxR X (fun x y H Q => ∃ a v, x = .ref a ∧ DGet H a y (some v) ∧ Q v H) := by
  intro value slice pins s σ H x y v u Q I rx ry h hs
  obtain ⟨a, w, rfl, g, q⟩ := h
  cases rx
  exact tail_any (dict_typeIs I g) PySem.F.slot_dict_getitem.lookup (d_getItem hu I g ry fun w' s3 I3 rw' => ⟨w, H, I3, rw', q⟩) hs
theorem rps_atI {K : PySem.W.Frag} {H : Hp} {fz : Addr → Prop} {xs : List V} {ds : List D} {i : Int} {d : D} (h : Rps K H fz xs ds) (e : atI ds i = some d) : ∃ v, atI xs i = some v ∧ Rp K H fz v d := by
  unfold atI at *
  rw [h.len]
  cases c : ixN ds.length i with
  | none =>
    rw [c] at e
    cases e
  | some j =>
    rw [c] at e
    exact h.at e
theorem ix_E (hu : X.A.units + 1 < cLine) : IxR X (fun x y H Q => PV X.K (primF .idx) [x, y] H Q) := by
  intro value slice pins s σ H x y v u Q I rx ry h hs
  obtain ⟨al, fz, st, rs, r0, st', ok, hr, e, q⟩ := h
  obtain ⟨r1, r2, rfl, h1, h2⟩ := paired2 hr
  replace e : idxF r1 r2 st = .ok r0 st' := e
  unfold idxF at e
  split at e
  · rename_i k
    have h2 : Rp X.K H fz y k := h2
    split at e
    · rename_i kvs hk
      obtain ⟨hs2, e⟩ := if_ok e
      split at e
      · rename_i d hd
        cases e
        obtain ⟨p, hp⟩ := key_of_isSome hs2
        obtain ⟨b, ks, rfl, hH, z, pr⟩ := dicOf_ok ok h1 hk
        have ex := key_kV h2 hp
        have g := dget_val hp pr
        rw [hd] at g
        obtain ⟨w, g1, g2⟩ := g
        refine ix_dict hu value slice pins s σ H _ y v u Q I rx ry ⟨b, w, rfl, ?_, q.dat ok g2⟩ hs
        rw [ex, ← g1]
        exact .k hH
      · cases e
    · split at e
      · rename_i i _
        have ey := rp_int h2
        unfold idxS at e
        split at e
        · rename_i z _
          split at e
          · rename_i d hd
            cases e
            obtain ⟨rfl, hz⟩ := rp_str (show Rp X.K H fz x (.str z) from h1)
            unfold signs at hd
            have hd' : ∃ c, atI z.cps.toList i = some c ∧ d = .str ⟨#[c]⟩ := by
              unfold atI at hd ⊢
              rw [List.length_map] at hd
              cases j : ixN z.cps.toList.length i with
              | none =>
                rw [j] at hd
                cases hd
              | some j' =>
                rw [j] at hd
                replace hd : (z.cps.toList.map fun c => PyData.str ⟨#[c]⟩)[j']? = some d := hd
                rw [List.getElem?_map] at hd
                cases c : z.cps.toList[j']? with
                | none =>
                  rw [c] at hd
                  cases hd
                | some c' =>
                  rw [c] at hd
                  cases hd
                  exact ⟨c', c, rfl⟩
            obtain ⟨c, hc, rfl⟩ := hd'
            have hl := okS_len hz
            have hx : okS ⟨#[c]⟩ = true := okS_of (fun d hd => by
              have : d = c := by simpa using hd
              subst this
              have : d ∈ z.cps.toList := by
                unfold atI at hc
                cases e : ixN z.cps.toList.length i with
                | none =>
                  rw [e] at hc
                  cases hc
                | some j =>
                  rw [e] at hc
                  exact List.mem_of_getElem? hc
              exact okS_mem hz _ this) (by show 1 ≤ 1000; decide)
            exact ix_str value slice pins s σ H _ y v u Q I rx ry ⟨z, i, c, rfl, ey, size_ok (by omega), hc, q.dat ok (.str _ hx)⟩ hs
          · cases e
        · split at e
          · rename_i xs hxs
            split at e
            · rename_i d hd
              cases e
              obtain ⟨b, ys, rfl, z, pr, w⟩ := seqOf_ok ok h1 hxs
              obtain ⟨w2, g1, g2⟩ := rps_atI pr hd
              rcases w with ⟨w, _⟩ | ⟨w, _⟩
              · exact ix_list value slice pins s σ H _ y v u Q I rx ry ⟨b, ys, i, w2, rfl, ey, w, g1, q.dat ok g2⟩ hs
              · exact ix_tup value slice pins s σ H _ y v u Q I rx ry ⟨b, ys, i, w2, rfl, ey, .inl w.rd, g1, q.dat ok g2⟩ hs
            · cases e
          · cases e
      · unfold idxT at e
        split at e
        · rename_i kvs hkv
          obtain ⟨hs2, e⟩ := if_ok e
          obtain ⟨ds, p, rfl, hp, hpn⟩ := keyT_of hs2
          obtain ⟨b, ks, rfl, hH, z, pr⟩ := ditOf_ok ok h1 hkv
          obtain ⟨c, rfl, hc, _⟩ := key_tup (show Rp X.K H fz y (.tuple ds) from h2) hp hpn
          have hv := dget_valT hp pr
          split at e
          · rename_i d hd
            rw [hd] at hv
            obtain ⟨w, hw, rw'⟩ := hv
            cases e
            exact ix_dict hu value slice pins s σ H _ _ v u Q I rx ry ⟨b, w, rfl, by rw [← hw]; exact dgetT_of hH hc, q.dat ok rw'⟩ hs
          · cases e
        · cases e
  · cases e
/-! ### slices -/
/-- a slice by values -/
def SV (K : PySem.W.Frag) : V → Option Int → Option Int → Hp → VK → Prop := fun x lo hi H Q => ∃ al fz st r1 r0 st', Ok K al fz st H ∧ RR K al fz H x r1 ∧ slcF r1 lo hi st = .ok r0 st' ∧ Post K al fz H r0 st' Q
theorem rps_cut {K : PySem.W.Frag} {H : Hp} {fz : Addr → Prop} {xs : List V} {ds : List D} {lo hi : Option Int} (h : Rps K H fz xs ds) : Rps K H fz (cutV xs lo hi) (cutL ds lo hi) := by
  unfold cutV cutL
  rw [h.len]
  exact (h.drop _).take _
theorem cut_whole {α : Type} {xs : List α} {lo hi : Option Int} (h : HT.sIx xs.length 0 lo = 0 ∧ HT.sIx xs.length xs.length hi = xs.length) : cutL xs lo hi = xs := by
  unfold cutL
  rw [h.1, h.2]
  simp
theorem sl_E : SlR X (SV X.K) := by
  intro pins s σ H x v vl vu lo hi sl Q I rx hs pl pu h
  obtain ⟨al, fz, st, r1, r0, st', ok, h1, e, q⟩ := h
  unfold slcF at e
  split at e
  · rename_i z
    cases e
    obtain ⟨rfl, hz⟩ := rp_str (show Rp X.K H fz x (.str z) from h1)
    have hl := okS_len hz
    refine sl_str pins s σ H _ v vl vu lo hi sl Q I rx hs pl pu ⟨z, rfl, size_ok (by omega), ?_⟩
    have e1 : cutS z lo hi = ⟨(cutL z.cps.toList lo hi).toArray⟩ := by
      unfold cutS cutL
      have : z.cps.toList.length = z.length := by simp [Str.length]
      rw [this]
    rw [e1]
    refine q.dat ok (.str _ (okS_of (fun d hd => ?_) ?_))
    · have hd : d ∈ cutL z.cps.toList lo hi := by simpa using hd
      exact okS_mem hz _ (List.mem_of_mem_drop (List.mem_of_mem_take hd))
    · rw [← e1]
      exact Nat.le_trans (cutS_length _ _ _) hl
  · rename_i xs
    cases e
    obtain ⟨a, ys, rfl, hH, z, pr⟩ := rp_tup (show Rp X.K H fz x (.tuple xs) from h1)
    refine sl_tupN pins s σ H _ v vl vu lo hi sl Q I rx hs pl pu ⟨a, ys, rfl, .inl hH.rd, fun w => ?_, fun w p n => ?_⟩
    · rw [pr.len] at w
      refine q.dat ok ?_
      rw [cut_whole w]
      exact .tup hH z pr
    · exact q.tup ok (rps_cut pr) (Nat.le_trans (cutV_length _ _ _) z) n
  · split at e
    · rename_i xs hx
      cases e
      obtain ⟨a, ys, rfl, sq, z, pr⟩ := lstOf_ok ok h1 hx
      exact sl_list pins s σ H _ v vl vu lo hi sl Q I rx hs pl pu ⟨a, ys, rfl, sq, fun p n => q.lst ok (rps_cut pr) (Nat.le_trans (cutV_length _ _ _) z) n⟩
    · cases e
end
end Ev

/-! Ev8: expressions -/
namespace Ev
open PySem PySem.Spec PyProof.Rows L2

/-- an exception leaves -/
def Xp (K : PySem.W.Frag) (al : List Addr) (fz : Addr → Prop) (H : Hp) (XE : XK) (cl : Nat → Value) (c : Nat) (st : List Ob) : Prop :=
  ∀ H' fz', Go al fz H fz' H' → Ok K al fz' st H' → XE (cl c) none H'
def Dn {α : Type} (K : PySem.W.Frag) (al : List Addr) (fz : Addr → Prop) (H : Hp) (XE : XK) (cl : Nat → Value) (r : Rs α) (P : α → List Ob → Prop) : Prop :=
  match r with
  | .ok a st => P a st
  | .exc c st => Xp K al fz H XE cl c st
  | .err => False
section
variable {K : PySem.W.Frag} {al : List Addr} {fz fz' fz1 : Addr → Prop} {H H' H1 : Hp} {XE : XK} {cl : Nat → Value} {st st' : List Ob} {σ : L2.St} {env : Envr}
theorem Dn.bind {α β : Type} {r : Rs α} {k : α → List Ob → Rs β} {P : β → List Ob → Prop} (h : Dn K al fz H XE cl (r.bind k) P) : Dn K al fz H XE cl r fun a st => Dn K al fz H XE cl (k a st) P := by
  cases r <;> exact h
theorem Dn.mono {α : Type} {r : Rs α} {P P' : α → List Ob → Prop} (h : Dn K al fz H XE cl r P) (q : ∀ a st, P a st → P' a st) : Dn K al fz H XE cl r P' := by
  cases r with
  | ok a st => exact q a st h
  | exc c st => exact h
  | err => exact h
theorem Xp.from {c : Nat} (g : Go al fz H fz1 H1) (h : Xp K al fz H XE cl c st) : Xp K al fz1 H1 XE cl c st := fun H' fz' g' ok => h H' fz' (g.trans g') ok
theorem Dn.from {α : Type} {r : Rs α} {P : α → List Ob → Prop} (g : Go al fz H fz1 H1) (h : Dn K al fz H XE cl r P) : Dn K al fz1 H1 XE cl r P := by
  cases r with
  | ok a st => exact h
  | exc c st => exact Xp.from g h
  | err => exact h
/-- the slots -/
structure EnvO (K : PySem.W.Frag) (al : List Addr) (fz : Addr → Prop) (H : Hp) (σ : L2.St) (env : Envr) : Prop where
  len : env.length = σ.length
  at_ : ∀ (i : Nat) (r : R), env[i]? = some (some r) → (∀ b, r ≠ .f b) ∧ ∃ v : V, σ[i]? = some (some v) ∧ RR K al fz H v r
theorem EnvO.kp (e : EnvO K al fz H σ env) (ok : Ok K al fz st H) (g : Go al fz H fz' H') : EnvO K al fz' H' σ env :=
  ⟨e.len, fun i r h => ⟨(e.at_ i r h).1, by
    obtain ⟨v, h1, h2⟩ := (e.at_ i r h).2
    exact ⟨v, h1, h2.kp ok g⟩⟩⟩
end
/-- an expression -/
def tE (K : PySem.W.Frag) (cl : Nat → Value) (Φ : Calls) (W : WX) (e : E) : TE := fun σ H Q => ∃ al fz st env, Ok K al fz st H ∧ EnvO K al fz H σ env ∧ Dn K al fz H (WE W σ) cl (evE Φ e env st) fun r st' => Post K al fz H r st' Q
def PostA (K : PySem.W.Frag) (al : List Addr) (fz : Addr → Prop) (H : Hp) (rs : List R) (st' : List Ob) (Q : List V → Hp → Prop) : Prop :=
  ∀ vs H' fz', Go al fz H fz' H' → Ok K al fz' st' H' → Ars K al fz' H H' vs rs → Q vs H'
def tEs (K : PySem.W.Frag) (cl : Nat → Value) (Φ : Calls) (W : WX) (es : Es) : TA := fun σ H Q => ∃ al fz st env, Ok K al fz st H ∧ EnvO K al fz H σ env ∧ Dn K al fz H (WE W σ) cl (evEs Φ es env st) fun rs st' => PostA K al fz H rs st' Q
/-- a test -/
def PostB (K : PySem.W.Frag) (al : List Addr) (fz : Addr → Prop) (H : Hp) (b : Bool) (st' : List Ob) (Q : Bool → Hp → Prop) : Prop :=
  ∀ H' fz', Go al fz H fz' H' → Ok K al fz' st' H' → Q b H'
def tT (K : PySem.W.Frag) (cl : Nat → Value) (Φ : Calls) (W : WX) (e : E) : TT := fun σ H Q => ∃ al fz st env, Ok K al fz st H ∧ EnvO K al fz H σ env ∧ Dn K al fz H (WE W σ) cl (evE Φ e env st) fun r st' => ∃ b, r = .d (.bool b) ∧ PostB K al fz H b st' Q
theorem _root_.L2.PE.imp {X : Cx} {e : Expr} {t t' : TE} (h : PE X e t) (q : ∀ σ H Q, t' σ H Q → t σ H Q) : PE X e t' := ⟨fun pins s σ H Q I z => h.run pins s σ H Q I (q σ H Q z)⟩
theorem _root_.L2.PT.imp {X : Cx} {e : Expr} {t t' : TT} (h : PT X e t) (q : ∀ σ H Q, t' σ H Q → t σ H Q) : PT X e t' := ⟨fun pins s σ H Q I z => h.run pins s σ H Q I (q σ H Q z)⟩
theorem _root_.L2.PW.imp {X : Cx} {e : Expr} {t t' : TT} (h : PW X e t) (q : ∀ σ H Q, t' σ H Q → t σ H Q) : PW X e t' := ⟨fun wh pins s σ H Q I z => h.run wh pins s σ H Q I (q σ H Q z)⟩
theorem _root_.L2.PS.imp {X : Cx} {e : Stmt} {t t' : TS} (h : PS X e t) (q : ∀ D σ H, t' D σ H → t D σ H) : PS X e t' := ⟨fun pins s σ H D I z => h.run pins s σ H D I (q D σ H z)⟩
theorem _root_.L2.PSs.imp {X : Cx} {e : List Stmt} {t t' : TS} (h : PSs X e t) (q : ∀ D σ H, t' D σ H → t D σ H) : PSs X e t' := ⟨fun pins s σ H D I z => h.run pins s σ H D I (q D σ H z)⟩
theorem _root_.L2.PA.imp {X : Cx} {e : List Expr} {t t' : TA} (h : PA X e t) (q : ∀ σ H Q, t' σ H Q → t σ H Q) : PA X e t' := ⟨fun pos pins s σ H Q I z => h.run pos pins s σ H Q I (q σ H Q z)⟩

section
variable {K : PySem.W.Frag} {cl : Nat → Value} {Φ : Calls} {W : WX} {σ : L2.St} {H : Hp} {al : List Addr} {fz : Addr → Prop} {st st' : List Ob} {env : Envr}
/-- an expression is worked out, the rest goes on from there -/
theorem tE.mk {e : E} {Q : VK} {P : R → List Ob → Prop} (ok : Ok K al fz st H) (eo : EnvO K al fz H σ env) (h : Dn K al fz H (WE W σ) cl (evE Φ e env st) P)
    (hq : ∀ r st' v H1 fz1, P r st' → Go al fz H fz1 H1 → Ok K al fz1 st' H1 → EnvO K al fz1 H1 σ env → RR K al fz1 H1 v r → Fresh H v r → Q v H1) : tE K cl Φ W e σ H Q :=
  ⟨al, fz, st, env, ok, eo, h.mono fun r st' p v H1 fz1 g ok1 rr fr => hq r st' v H1 fz1 p g ok1 (eo.kp ok g) rr fr⟩
theorem tT.mk {e : E} {Q : Bool → Hp → Prop} {P : R → List Ob → Prop} (ok : Ok K al fz st H) (eo : EnvO K al fz H σ env) (h : Dn K al fz H (WE W σ) cl (evE Φ e env st) P)
    (hq : ∀ r st', P r st' → ∃ b, r = .d (.bool b) ∧ ∀ H1 fz1, Go al fz H fz1 H1 → Ok K al fz1 st' H1 → EnvO K al fz1 H1 σ env → Q b H1) : tT K cl Φ W e σ H Q :=
  ⟨al, fz, st, env, ok, eo, h.mono fun r st' p => by
    obtain ⟨b, e, q⟩ := hq r st' p
    exact ⟨b, e, fun H1 fz1 g ok1 => q H1 fz1 g ok1 (eo.kp ok g)⟩⟩
theorem PostA.from {fz0 : Addr → Prop} {H0 : Hp} {rs : List R} {Q : List V → Hp → Prop} {fz : Addr → Prop} {H : Hp} (g : Go al fz0 H0 fz H) (q : ∀ vs H' fz', Go al fz0 H0 fz' H' → Ok K al fz' st' H' → Ars K al fz' H H' vs rs → Q vs H') : PostA K al fz H rs st' Q :=
  fun vs H' fz' g' ok t => q vs H' fz' (g.trans g') ok t
theorem s_nil {Q : List V → Hp → Prop} (h : tEs K cl Φ W .nil σ H Q) : tNil σ H Q := by
  obtain ⟨al, fz, st, env, ok, eo, h⟩ := h
  exact h [] H fz Go.refl ok Ars.nil
theorem s_cons {e : E} {es : Es} {Q : List V → Hp → Prop} (h : tEs K cl Φ W (.cons e es) σ H Q) : tCons (tE K cl Φ W e) (tEs K cl Φ W es) σ H Q := by
  obtain ⟨al, fz, st, env, ok, eo, h⟩ := h
  refine tE.mk ok eo (Dn.bind h) fun r st1 v H1 fz1 p g ok1 eo1 rr fr => ?_
  refine ⟨al, fz1, st1, env, ok1, eo1, ((Dn.bind p).from g).mono fun rs st2 q => ?_⟩
  intro vs H2 fz2 g2 ok2 t
  exact q (v :: vs) H2 fz2 (g.trans g2) ok2 (Ars.cons ok1 g rr fr g2 t)
theorem s_one {e : E} {Q : List V → Hp → Prop} (h : tEs K cl Φ W (.cons e .nil) σ H Q) : tE K cl Φ W e σ H fun x H1 => Q [x] H1 := by
  have h := s_cons h
  obtain ⟨al, fz, st, env, ok, eo, h⟩ := h
  exact ⟨al, fz, st, env, ok, eo, h.mono fun r st' q v H' fz' g ok' rr fr => s_nil (q v H' fz' g ok' rr fr)⟩
theorem tE.imp {e : E} {Q Q' : VK} (h : tE K cl Φ W e σ H Q) (q : ∀ v H, Q v H → Q' v H) : tE K cl Φ W e σ H Q' := by
  obtain ⟨al, fz, st, env, ok, eo, h⟩ := h
  exact ⟨al, fz, st, env, ok, eo, h.mono fun r st' p v H' fz' g ok' rr fr => q _ _ (p v H' fz' g ok' rr fr)⟩
theorem s_two {a b : E} {Q : List V → Hp → Prop} (h : tEs K cl Φ W (.cons a (.cons b .nil)) σ H Q) : tE K cl Φ W a σ H fun x H1 => tE K cl Φ W b σ H1 fun y H2 => Q [x, y] H2 :=
  tE.imp (s_cons h) fun _ _ h => s_one h
theorem bind_assoc {α β γ : Type} (r : Rs α) (k : α → List Ob → Rs β) (l : β → List Ob → Rs γ) : (r.bind k).bind l = r.bind fun a st => (k a st).bind l := by
  cases r <;> rfl
/-- a first place: what goes before an operation on arguments -/
theorem s_args {es : Es} {e : E} {p : List R → List Ob → Rs R} {Q : VK} (he : ∀ env st, evE Φ e env st = (evEs Φ es env st).bind p) (h : tE K cl Φ W e σ H Q) :
    ∃ al fz st env, Ok K al fz st H ∧ EnvO K al fz H σ env ∧ Dn K al fz H (WE W σ) cl (evEs Φ es env st) fun rs st1 => Dn K al fz H (WE W σ) cl (p rs st1) fun r st' => Post K al fz H r st' Q := by
  obtain ⟨al, fz, st, env, ok, eo, h⟩ := h
  rw [he] at h
  exact ⟨al, fz, st, env, ok, eo, Dn.bind h⟩
/-- an operation that lets no exception out -/
def NoX (p : List R → List Ob → Rs R) : Prop := ∀ rs st c st', p rs st ≠ .exc c st'
theorem s_prim {es : Es} {e : E} {p : List R → List Ob → Rs R} {Q : VK} (hp : NoX p) (he : ∀ env st, evE Φ e env st = (evEs Φ es env st).bind p) (h : tE K cl Φ W e σ H Q) : tEs K cl Φ W es σ H fun vs H1 => PA0 K p vs H1 Q := by
  obtain ⟨al, fz, st, env, ok, eo, h⟩ := s_args he h
  refine ⟨al, fz, st, env, ok, eo, h.mono fun rs st1 d vs H1 fz1 g ok1 t => ?_⟩
  cases e : p rs st1 with
  | ok r st' =>
    rw [e] at d
    exact ⟨al, fz, H, fz1, st1, rs, r, st', g, ok1, t, e, d⟩
  | exc c st' => exact absurd e (hp _ _ _ _)
  | err =>
    rw [e] at d
    exact d.elim
theorem PA0.len {p : List R → List Ob → Rs R} {vs : List V} {Q : VK} (h : PA0 K p vs H Q) : True := trivial
end
end Ev

/-! Ev9: expressions, node by node -/
namespace Ev
open PySem PySem.Spec PyProof.Rows L2
theorem nox_if {c : Prop} [Decidable c] {a b : Rs R} (ha : ∀ c st, a ≠ .exc c st) (hb : ∀ c st, b ≠ .exc c st) : ∀ c' st, (if c then a else b) ≠ .exc c' st := by
  intro c' st
  split
  · exact ha c' st
  · exact hb c' st
theorem nox_primF (p : Prim) : NoX (primF p) := by
  intro rs st c st' h
  match rs with
  | [] => cases h
  | [x] =>
    cases p <;> simp only [primF, newL, okB, dictF] at h <;> repeat' (first | cases h | split at h)
  | [x, y] =>
    cases p <;> simp only [primF, newL, okB, addF, catL, mulF, intF, joinF, appF, extF, popF, objL, idxF, idxS, idxT] at h <;> repeat' (first | cases h | split at h)
  | _ :: _ :: _ :: _ => cases h
def cmpG (o : Cmp) (rs : List R) (st : List Ob) : Rs R := match rs with
  | [a, b] => cmpF o a b st
  | _ => .err
theorem nox_cmp (o : Cmp) : NoX (cmpG o) := by
  intro rs st c st' h
  match rs with
  | [x, y] =>
    cases o <;> simp only [cmpG, cmpF, cmpF.inF, inT, bothD, okB] at h <;> repeat' (first | cases h | split at h)
  | [] => cases h
  | [_] => cases h
  | _ :: _ :: _ :: _ => cases h
section
variable {X : Cx} {cl : Nat → Value} {Φ : Calls} {W : WX} {a b c : Expr} {ea eb ec : E} {pos : Pos}
theorem e_var {i : Nat} {x : Str} (hN : X.N[i]? = some x) (hv : Vis X.env.scope x) (hd : (x == ("__debug__" : Str)) = false) (hcd : (x == ("__classdict__" : Str)) = false) : PE X (.Name x pos) (tE X.K cl Φ W (.var i)) :=
  (pe_var hN hv hd hcd).imp fun σ H Q h => by
    obtain ⟨al, fz, st, env, ok, eo, h⟩ := h
    unfold evE at h
    split at h
    · rename_i r e
      obtain ⟨nf, v, h1, h2⟩ := eo.at_ _ _ e
      exact ⟨v, h1, h v H fz Go.refl ok h2 fun b _ e => absurd e (nf b)⟩
    · exact h.elim
theorem e_dat {e : Expr} {v : V} {d : D} (h : PE X e (tC v)) (hr : ∀ H fz, Rp X.K H fz v d) : PE X e (tE X.K cl Φ W (.dat d)) :=
  h.imp fun σ H Q h => by
    obtain ⟨al, fz, st, env, ok, eo, h⟩ := h
    exact h v H fz Go.refl ok (hr H fz) Fresh.d
theorem e_bin {op : Operator} {p : Prim} (ho : OpR X (binaryOp op) (fun x y H Q => PV X.K (primF p) [x, y] H Q)) (ha : PE X a (tE X.K cl Φ W ea)) (hb : PE X b (tE X.K cl Φ W eb)) : PE X (.BinOp a op b pos) (tE X.K cl Φ W (.prim p (.cons ea (.cons eb .nil)))) :=
  (pe_op ho ha hb).imp fun σ H Q h => tE.imp (s_two (s_prim (nox_primF p) (fun _ _ => rfl) h)) fun _ _ h => tE.imp h fun _ _ h => h.pv
theorem e_neg (ha : PE X a (tE X.K cl Φ W ea)) : PE X (.UnaryOp .USub a pos) (tE X.K cl Φ W (.prim .neg (.cons ea .nil))) :=
  (pe_un un_negE ha).imp fun σ H Q h => tE.imp (s_one (s_prim (nox_primF .neg) (fun _ _ => rfl) h)) fun _ _ h => h.pv
theorem evE_cmp (o : Cmp) (ea eb : E) (env : Envr) (st : List Ob) : evE Φ (.cmp o ea eb) env st = (evEs Φ (.cons ea (.cons eb .nil)) env st).bind (cmpG o) := by
  simp only [evE, evEs, bind_assoc]
  rfl
theorem e_cmpR {op : CmpOp} {o : Cmp} (ho : OpR X (compareOp op) (CV X.K o)) (ha : PE X a (tE X.K cl Φ W ea)) (hb : PE X b (tE X.K cl Φ W eb)) (hm : behindInMarks op b = false) : PE X (.Compare a [op] [b] pos) (tE X.K cl Φ W (.cmp o ea eb)) :=
  (pe_cmpR ho ha hb hm).imp fun σ H Q h => tE.imp (s_two (s_prim (nox_cmp o) (evE_cmp o ea eb) h)) fun _ _ h => tE.imp h fun _ _ h => h.pv
theorem t_test {e : E} {σ : L2.St} {H : Hp} {Q : Bool → Hp → Prop} (h : tT X.K cl Φ W e σ H Q) : tE X.K cl Φ W e σ H fun x H' => ∃ k, x = .bl k ∧ Q k H' := by
  obtain ⟨al, fz, st, env, ok, eo, h⟩ := h
  refine tE.mk ok eo h fun r st' v H1 fz1 p g ok1 eo1 rr fr => ?_
  obtain ⟨b, rfl, q⟩ := p
  exact ⟨b, rp_bool rr, q H1 fz1 g ok1⟩
theorem t_cmpR {op : CmpOp} {o : Cmp} (ho : OpR X (compareOp op) (CV X.K o)) (ha : PE X a (tE X.K cl Φ W ea)) (hb : PE X b (tE X.K cl Φ W eb)) (hm : behindInMarks op b = false) : PT X (.Compare a [op] [b] pos) (tT X.K cl Φ W (.cmp o ea eb)) :=
  (pt_cmpR ho ha hb hm).imp fun σ H Q h => tE.imp (s_two (s_prim (nox_cmp o) (evE_cmp o ea eb) (t_test h))) fun _ _ h => tE.imp h fun _ _ h => h.pv
/-- is None -/
theorem is_non {σ : L2.St} {H : Hp} {Q : VK} (h : tE X.K cl Φ W (.cmp .isN ea (.dat .none)) σ H Q) : tIsN (tE X.K cl Φ W ea) σ H Q := by
  obtain ⟨al, fz, st, env, ok, eo, h⟩ := h
  unfold evE at h
  refine tE.mk ok eo (Dn.bind h) fun r st' v H1 fz1 p g ok1 eo1 rr fr => ?_
  have p : Post X.K al fz H (.d (.bool (isNon r))) st' Q := p
  rw [non_or rr]
  exact p _ H1 fz1 g ok1 (.bl _) Fresh.d
theorem not_non {σ : L2.St} {H : Hp} {Q : VK} (h : tE X.K cl Φ W (.cmp .notN ea (.dat .none)) σ H Q) : tNotN (tE X.K cl Φ W ea) σ H Q := by
  obtain ⟨al, fz, st, env, ok, eo, h⟩ := h
  unfold evE at h
  refine tE.mk ok eo (Dn.bind h) fun r st' v H1 fz1 p g ok1 eo1 rr fr => ?_
  have p : Post X.K al fz H (.d (.bool (!isNon r))) st' Q := p
  rw [non_or rr]
  exact p _ H1 fz1 g ok1 (.bl _) Fresh.d
theorem e_isN {j : Nat} {pos' : Pos} (ha : PE X a (tE X.K cl Φ W ea)) : PE X (.Compare a [.Is] [.Constant .none j pos'] pos) (tE X.K cl Φ W (.cmp .isN ea (.dat .none))) := (pe_cmp (pc_isN ha)).imp fun _ _ _ h => is_non h
theorem e_notN {j : Nat} {pos' : Pos} (ha : PE X a (tE X.K cl Φ W ea)) : PE X (.Compare a [.IsNot] [.Constant .none j pos'] pos) (tE X.K cl Φ W (.cmp .notN ea (.dat .none))) := (pe_cmp (pc_notN ha)).imp fun _ _ _ h => not_non h
theorem t_isN {j : Nat} {pos' : Pos} (ha : PE X a (tE X.K cl Φ W ea)) : PT X (.Compare a [.Is] [.Constant .none j pos'] pos) (tT X.K cl Φ W (.cmp .isN ea (.dat .none))) := (pt_cmp (pc_isN ha)).imp fun _ _ _ h => is_non (t_test h)
theorem t_notN {j : Nat} {pos' : Pos} (ha : PE X a (tE X.K cl Φ W ea)) : PT X (.Compare a [.IsNot] [.Constant .none j pos'] pos) (tT X.K cl Φ W (.cmp .notN ea (.dat .none))) := (pt_cmp (pc_notN ha)).imp fun _ _ _ h => not_non (t_test h)
/-! ### and, or, not, if -/
theorem tE.tst {e : E} {σ : L2.St} {H : Hp} {al : List Addr} {fz : Addr → Prop} {st : List Ob} {env : Envr} {k : Bool → List Ob → Rs R} {P : R → List Ob → Prop} {Q : VK} (ok : Ok X.K al fz st H) (eo : EnvO X.K al fz H σ env) (h : Dn X.K al fz H (WE W σ) cl (tst (evE Φ e env st) k) P)
    (hq : ∀ b st' H1 fz1, Dn X.K al fz1 H1 (WE W σ) cl (k b st') P → Go al fz H fz1 H1 → Ok X.K al fz1 st' H1 → EnvO X.K al fz1 H1 σ env → Q (.bl b) H1) : tE X.K cl Φ W e σ H Q := by
  refine tE.mk ok eo (Dn.bind h) fun r st' v H1 fz1 p g ok1 eo1 rr fr => ?_
  split at p
  · rename_i b
    rw [rp_bool rr]
    exact hq b st' H1 fz1 (p.from g) g ok1 eo1
  · exact p.elim
theorem tT.tst {e : E} {σ : L2.St} {H : Hp} {al : List Addr} {fz : Addr → Prop} {st : List Ob} {env : Envr} {k : Bool → List Ob → Rs R} {P : R → List Ob → Prop} {Q : Bool → Hp → Prop} (ok : Ok X.K al fz st H) (eo : EnvO X.K al fz H σ env) (h : Dn X.K al fz H (WE W σ) cl (Ev.tst (evE Φ e env st) k) P)
    (hq : ∀ b st' H1 fz1, Dn X.K al fz1 H1 (WE W σ) cl (k b st') P → Go al fz H fz1 H1 → Ok X.K al fz1 st' H1 → EnvO X.K al fz1 H1 σ env → Q b H1) : tT X.K cl Φ W e σ H Q := by
  refine ⟨al, fz, st, env, ok, eo, (Dn.bind h).mono fun r st' p => ?_⟩
  split at p
  · rename_i b
    exact ⟨b, rfl, fun H1 fz1 g ok1 => hq b st' H1 fz1 (p.from g) g ok1 (eo.kp ok g)⟩
  · exact p.elim
theorem Post.to {K : PySem.W.Frag} {al : List Addr} {fz fz1 : Addr → Prop} {H H1 : Hp} {st : List Ob} {r : R} {Q : VK} (g : Go al fz H fz1 H1) (p : Post K al fz H r st Q) : Post K al fz1 H1 r st Q := p.from g
theorem and_v {σ : L2.St} {H : Hp} {Q : VK} (h : tE X.K cl Φ W (.andE ea eb) σ H Q) : tAndV (tE X.K cl Φ W ea) (tE X.K cl Φ W eb) σ H Q := by
  obtain ⟨al, fz, st, env, ok, eo, h⟩ := h
  unfold evE at h
  refine tE.tst ok eo h fun b st' H1 fz1 p g ok1 eo1 => ⟨b, rfl, ?_⟩
  cases b with
  | true => exact ⟨al, fz1, st', env, ok1, eo1, Dn.mono p fun _ _ q => q.from g⟩
  | false => exact (show Post X.K al fz H (.d (.bool false)) st' Q from p) _ H1 fz1 g ok1 (.bl _) Fresh.d
theorem or_v {σ : L2.St} {H : Hp} {Q : VK} (h : tE X.K cl Φ W (.orE ea eb) σ H Q) : tOrV (tE X.K cl Φ W ea) (tE X.K cl Φ W eb) σ H Q := by
  obtain ⟨al, fz, st, env, ok, eo, h⟩ := h
  unfold evE at h
  refine tE.tst ok eo h fun b st' H1 fz1 p g ok1 eo1 => ⟨b, rfl, ?_⟩
  cases b with
  | true => exact (show Post X.K al fz H (.d (.bool true)) st' Q from p) _ H1 fz1 g ok1 (.bl _) Fresh.d
  | false => exact ⟨al, fz1, st', env, ok1, eo1, Dn.mono p fun _ _ q => q.from g⟩
theorem not_v {σ : L2.St} {H : Hp} {Q : VK} (h : tE X.K cl Φ W (.notE ea) σ H Q) : tNotV (tE X.K cl Φ W ea) σ H Q := by
  obtain ⟨al, fz, st, env, ok, eo, h⟩ := h
  unfold evE at h
  refine tE.tst ok eo h fun b st' H1 fz1 p g ok1 eo1 => ⟨b, rfl, ?_⟩
  exact (show Post X.K al fz H (.d (.bool !b)) st' Q from p) _ H1 fz1 g ok1 (.bl _) Fresh.d
theorem PostB.to {K : PySem.W.Frag} {al : List Addr} {fz fz1 : Addr → Prop} {H H1 : Hp} {st : List Ob} {r : Bool} {Q : Bool → Hp → Prop} (g : Go al fz H fz1 H1) (p : PostB K al fz H r st Q) : PostB K al fz1 H1 r st Q := fun H' fz' g' ok => p H' fz' (g.trans g') ok
theorem and_t {σ : L2.St} {H : Hp} {Q : Bool → Hp → Prop} (h : tT X.K cl Φ W (.andE ea eb) σ H Q) : tAnd (tT X.K cl Φ W ea) (tT X.K cl Φ W eb) σ H Q := by
  obtain ⟨al, fz, st, env, ok, eo, h⟩ := h
  unfold evE at h
  refine tT.tst ok eo h fun b st' H1 fz1 p g ok1 eo1 => ?_
  cases b with
  | true => exact ⟨al, fz1, st', env, ok1, eo1, Dn.mono p fun _ _ ⟨k, e, q⟩ => ⟨k, e, q.to g⟩⟩
  | false =>
    obtain ⟨k, e, q⟩ := p
    cases e
    exact q H1 fz1 g ok1
theorem or_t {σ : L2.St} {H : Hp} {Q : Bool → Hp → Prop} (h : tT X.K cl Φ W (.orE ea eb) σ H Q) : tOr (tT X.K cl Φ W ea) (tT X.K cl Φ W eb) σ H Q := by
  obtain ⟨al, fz, st, env, ok, eo, h⟩ := h
  unfold evE at h
  refine tT.tst ok eo h fun b st' H1 fz1 p g ok1 eo1 => ?_
  cases b with
  | true =>
    obtain ⟨k, e, q⟩ := p
    cases e
    exact q H1 fz1 g ok1
  | false => exact ⟨al, fz1, st', env, ok1, eo1, Dn.mono p fun _ _ ⟨k, e, q⟩ => ⟨k, e, q.to g⟩⟩
theorem not_t {σ : L2.St} {H : Hp} {Q : Bool → Hp → Prop} (h : tT X.K cl Φ W (.notE ea) σ H Q) : tNot (tT X.K cl Φ W ea) σ H Q := by
  obtain ⟨al, fz, st, env, ok, eo, h⟩ := h
  unfold evE at h
  refine tT.tst ok eo h fun b st' H1 fz1 p g ok1 eo1 => ?_
  obtain ⟨k, e, q⟩ := p
  cases e
  exact q H1 fz1 g ok1
theorem if_v {σ : L2.St} {H : Hp} {Q : VK} (h : tE X.K cl Φ W (.ite ec ea eb) σ H Q) : tIf (tT X.K cl Φ W ec) (tE X.K cl Φ W ea) (tE X.K cl Φ W eb) σ H Q := by
  obtain ⟨al, fz, st, env, ok, eo, h⟩ := h
  unfold evE at h
  refine tT.tst ok eo h fun b st' H1 fz1 p g ok1 eo1 => ?_
  cases b with
  | true => exact ⟨al, fz1, st', env, ok1, eo1, Dn.mono p fun _ _ q => q.from g⟩
  | false => exact ⟨al, fz1, st', env, ok1, eo1, Dn.mono p fun _ _ q => q.from g⟩
theorem e_and {rest : List Expr} (ha : PE X a (tE X.K cl Φ W ea)) (hb : PE X (.BoolOp .And (b :: rest) pos) (tE X.K cl Φ W eb)) : PE X (.BoolOp .And (a :: b :: rest) pos) (tE X.K cl Φ W (.andE ea eb)) := (pe_and ha hb).imp fun _ _ _ h => and_v h
theorem e_or {rest : List Expr} (ha : PE X a (tE X.K cl Φ W ea)) (hb : PE X (.BoolOp .Or (b :: rest) pos) (tE X.K cl Φ W eb)) : PE X (.BoolOp .Or (a :: b :: rest) pos) (tE X.K cl Φ W (.orE ea eb)) := (pe_or ha hb).imp fun _ _ _ h => or_v h
theorem e_not (ha : PE X a (tE X.K cl Φ W ea)) : PE X (.UnaryOp .Not a pos) (tE X.K cl Φ W (.notE ea)) := (pe_not ha).imp fun _ _ _ h => not_v h
theorem e_if (hc : PT X c (tT X.K cl Φ W ec)) (ha : PE X a (tE X.K cl Φ W ea)) (hb : PE X b (tE X.K cl Φ W eb)) : PE X (.IfExp c a b pos) (tE X.K cl Φ W (.ite ec ea eb)) := (pe_ifExp hc ha hb).imp fun _ _ _ h => if_v h
theorem w_and {rest : List Expr} (ha : PT X a (tT X.K cl Φ W ea)) (hb : PW X (.BoolOp .And (b :: rest) pos) (tT X.K cl Φ W eb)) : PW X (.BoolOp .And (a :: b :: rest) pos) (tT X.K cl Φ W (.andE ea eb)) := (pw_and ha hb).imp fun _ _ _ h => and_t h
theorem w_or {rest : List Expr} (ha : PT X a (tT X.K cl Φ W ea)) (hb : PW X (.BoolOp .Or (b :: rest) pos) (tT X.K cl Φ W eb)) : PW X (.BoolOp .Or (a :: b :: rest) pos) (tT X.K cl Φ W (.orE ea eb)) := (pw_or ha hb).imp fun _ _ _ h => or_t h
theorem t_not (ha : PT X a (tT X.K cl Φ W ea)) : PT X (.UnaryOp .Not a pos) (tT X.K cl Φ W (.notE ea)) := (pt_not ha).imp fun _ _ _ h => not_t h
theorem t_val (ha : PE X a (tE X.K cl Φ W ea)) (he : ∀ whole, isTrue a X.env whole = (do let v ← whole; standAt a.pos; holding [v] (truthy v))) : PT X a (tT X.K cl Φ W ea) := (pt_val ha he).imp fun _ _ _ h => (t_test h)
/-! ### a op b op' c -/
theorem chain_v {o o' : Cmp} {σ : L2.St} {H : Hp} {Q : VK} (h : tE X.K cl Φ W (.chain o o' ea eb ec) σ H Q) : tChain (CV X.K o) (CV X.K o') (tE X.K cl Φ W ea) (tE X.K cl Φ W eb) (tE X.K cl Φ W ec) σ H Q := by
  obtain ⟨al, fz, st, env, ok, eo, h⟩ := h
  unfold evE at h
  refine tE.mk ok eo (Dn.bind h) fun rx st1 x H1 fz1 p1 g1 ok1 eo1 rr1 fr1 => ?_
  refine tE.mk ok1 eo1 ((Dn.bind p1).from g1) fun ry st2 y H2 fz2 p2 g2 ok2 eo2 rr2 fr2 => ?_
  have rx2 := rr1.kp ok1 g2
  have p2 := Dn.bind (p2.from (g1.trans g2))
  cases e : cmpF o rx ry st2 with
  | err =>
    rw [e] at p2
    exact p2.elim
  | exc c st' => exact absurd e (nox_cmp o [rx, ry] st2 c st')
  | ok r st3 =>
    rw [e] at p2
    refine ⟨al, fz2, st2, [rx, ry], r, st3, ok2, .cons rx2 (.cons rr2 .nil), e, fun v H3 fz3 g3 ok3 rr3 fr3 => ?_⟩
    have p3 : Dn X.K al fz2 H2 (WE W σ) cl (match r with | .d (.bool b) => (if b = true then (evE Φ ec env st3).bind fun z st => cmpF o' ry z st else okB false st3) | _ => .err) fun r st' => Post X.K al fz H r st' Q := p2
    split at p3
    · rename_i k
      refine ⟨k, rp_bool rr3, ?_⟩
      cases k with
      | true =>
        rw [if_pos rfl] at p3 ⊢
        refine tE.mk ok3 (eo2.kp ok2 g3) ((Dn.bind p3).from g3) fun rz st4 z H4 fz4 p4 g4 ok4 eo4 rr4 fr4 => ?_
        have ry4 := (rr2.kp ok2 g3).kp ok3 g4
        cases e2 : cmpF o' ry rz st4 with
        | err =>
          rw [e2] at p4
          exact p4.elim
        | exc c st' => exact absurd e2 (nox_cmp o' [ry, rz] st4 c st')
        | ok r' st5 =>
          rw [e2] at p4
          exact ⟨al, fz4, st4, [ry, rz], r', st5, ok4, .cons ry4 (.cons rr4 .nil), e2, Post.from (g1.trans (g2.trans (g3.trans g4))) p4⟩
      | false =>
        rw [if_neg Bool.false_ne_true] at p3 ⊢
        exact (show Post X.K al fz H (.d (.bool false)) st3 Q from p3) _ H3 fz3 (g1.trans (g2.trans g3)) ok3 (.bl _) Fresh.d
    · exact p3.elim
theorem e_chain {op op' : CmpOp} {o o' : Cmp} (ho : OpR X (compareOp op) (CV X.K o)) (ho' : OpR X (compareOp op') (CV X.K o')) (ha : PE X a (tE X.K cl Φ W ea)) (hb : PE X b (tE X.K cl Φ W eb)) (hc : PE X c (tE X.K cl Φ W ec)) (hm : lastMarks [op, op'] [b, c] = false) :
    PE X (.Compare a [op, op'] [b, c] pos) (tE X.K cl Φ W (.chain o o' ea eb ec)) := (pe_chain ho ho' ha hb hc hm).imp fun _ _ _ h => chain_v h
theorem t_chain {op op' : CmpOp} {o o' : Cmp} (ho : OpR X (compareOp op) (CV X.K o)) (ho' : OpR X (compareOp op') (CV X.K o')) (ha : PE X a (tE X.K cl Φ W ea)) (hb : PE X b (tE X.K cl Φ W eb)) (hc : PE X c (tE X.K cl Φ W ec)) (hm : lastMarks [op, op'] [b, c] = false) :
    PT X (.Compare a [op, op'] [b, c] pos) (tT X.K cl Φ W (.chain o o' ea eb ec)) := (pt_chain ho ho' ha hb hc hm).imp fun _ _ _ h => chain_v (t_test h)
end
end Ev

/-! Ev10: argument lists, displays, calls, subscripts, slices, methods, isinstance -/
namespace Ev
open PySem PySem.Spec PyProof.Rows L2
def tAll (K : PySem.W.Frag) (cl : Nat → Value) (Φ : Calls) (W : WX) : Es → TA
  | .nil => tNil
  | .cons e es => tCons (tE K cl Φ W e) (tAll K cl Φ W es)
def Es.app : Es → Es → Es
  | .nil, ks => ks
  | .cons e es, ks => .cons e (es.app ks)
def Es.len : Es → Nat
  | .nil => 0
  | .cons _ es => es.len + 1
section
variable {K : PySem.W.Frag} {cl : Nat → Value} {Φ : Calls} {W : WX} {σ : L2.St}
theorem tAll.imp : ∀ {es : Es} {H : Hp} {Q Q' : List V → Hp → Prop}, tAll K cl Φ W es σ H Q → (∀ vs H, vs.length = es.len → Q vs H → Q' vs H) → tAll K cl Φ W es σ H Q'
  | .nil, _, _, _, h, q => q [] _ rfl h
  | .cons e es, _, _, _, h, q => tE.imp h fun v H1 h1 => tAll.imp h1 fun vs H2 hl h2 => q (v :: vs) H2 (congrArg Nat.succ hl) h2
theorem s_all : ∀ {es : Es} {H : Hp} {Q : List V → Hp → Prop}, tEs K cl Φ W es σ H Q → tAll K cl Φ W es σ H Q
  | .nil, _, _, h => s_nil h
  | .cons e es, _, _, h => tE.imp (s_cons h) fun _ _ h => s_all h
theorem s_app : ∀ {es ks : Es} {H : Hp} {Q : List V → Hp → Prop}, tAll K cl Φ W (es.app ks) σ H Q → tAll K cl Φ W es σ H fun vs H1 => tAll K cl Φ W ks σ H1 fun zs H2 => Q (vs ++ zs) H2
  | .nil, _, _, _, h => h
  | .cons e es, ks, _, _, h => tE.imp h fun v H1 h1 => s_app (Q := fun vs H2 => _) h1
end
section
variable {X : Cx} {cl : Nat → Value} {Φ : Calls} {W : WX} {a b c : Expr} {ea eb ec : E} {pos : Pos} {es : List Expr} {ees : Es}
theorem a_nil : PA X [] (tAll X.K cl Φ W .nil) := pa_nil
theorem a_cons (ha : PE X a (tE X.K cl Φ W ea)) (hr : PA X es (tAll X.K cl Φ W ees)) (hs : starEach (a :: es) X.env = (false, eval a X.env) :: starEach es X.env) : PA X (a :: es) (tAll X.K cl Φ W (.cons ea ees)) := pa_cons ha hr hs
/-! ### displays -/
def tupG (rs : List R) (st : List Ob) : Rs R := match toDs rs with
  | some ds => .ok (.d (.tuple ds)) st
  | none => .err
def lstG (rs : List R) (st : List Ob) : Rs R := match toDs rs with
  | some ds => .ok (.f (.lst ds)) st
  | none => .err
theorem nox_tup : NoX tupG := by
  intro rs st c st' h
  unfold tupG at h
  split at h <;> cases h
theorem nox_lst : NoX lstG := by
  intro rs st c st' h
  unfold lstG at h
  split at h <;> cases h
theorem e_tup {x1 : Nat} (h : PA X es (tAll X.K cl Φ W ees)) (hl : ees.len ≤ 1000) : PE X (.Tuple es x1 pos) (tE X.K cl Φ W (.tup ees)) :=
  (pe_tupN h).imp fun σ H Q h => (s_all (s_prim nox_tup (fun _ _ => by simp only [evE]; rfl) h)).imp fun vs H1 hlen h => by
    obtain ⟨al, fz0, H0, fz, st, rs, r, st', g, ok, t, e, q⟩ := h
    unfold tupG at e
    split at e
    · rename_i ds hd
      cases e
      obtain ⟨fz', g', ok', hr, _⟩ := t.fixAll g ok hd
      have z : vs.length ≤ sizeLine := by
        rw [hlen]
        exact size_ok (by omega)
      exact ⟨z, fun p n => (Post.from g' q).tup ok' hr z n⟩
    · cases e
theorem e_lst (h : PA X es (tAll X.K cl Φ W ees)) (hl : ees.len ≤ 1000) : PE X (.List es pos) (tE X.K cl Φ W (.lst ees)) :=
  (pe_lst h).imp fun σ H Q h => (s_all (s_prim nox_lst (fun _ _ => by simp only [evE]; rfl) h)).imp fun vs H1 hlen h => by
    obtain ⟨al, fz0, H0, fz, st, rs, r, st', g, ok, t, e, q⟩ := h
    unfold lstG at e
    split at e
    · rename_i ds hd
      cases e
      obtain ⟨fz', g', ok', hr, _⟩ := t.fixAll g ok hd
      have z : vs.length ≤ sizeLine := by
        rw [hlen]
        exact size_ok (by omega)
      exact ⟨z, fun p n => (Post.from g' q).lst ok' hr z n⟩
    · cases e
/-! ### built-in functions -/
theorem e_callB {id : String} {x : Str} {p : Prim} {p1 : Pos} (hc : CallR X (.builtin id) (fun vs H Q => PV X.K (primF p) vs H Q ∧ vs.length = ees.len)) (hg : Gl X x) (hm : X.mg x = none) (hv : bootBuiltins x = some (.builtin id)) (ha : PA X (a :: es) (tAll X.K cl Φ W ees))
    (hn : x ≠ "__name__") (hdb : (x == ("__debug__" : Str)) = false) (he : starEach (a :: es) X.env = (false, eval a X.env) :: starEach es X.env) (hpl : (backTo pos (starEach es X.env)).any (·.1) = false) :
    PE X (.Call (.Name x p1) (a :: es) [] pos) (tE X.K cl Φ W (.prim p ees)) :=
  (pe_callB hc hg hm hv ha hn hdb he hpl).imp fun σ H Q h => (s_all (s_prim (nox_primF p) (fun _ _ => rfl) h)).imp fun vs H1 hl h => ⟨h.pv, hl⟩
theorem e_callTy {id : String} {x : Str} {p : Prim} {p1 : Pos} (hc : CallR X (.type id) (fun vs H Q => PV X.K (primF p) vs H Q ∧ vs.length = ees.len)) (hg : Gl X x) (hm : X.mg x = none) (hv : bootBuiltins x = some (.type id)) (ha : PA X (a :: es) (tAll X.K cl Φ W ees))
    (hn : x ≠ "__name__") (hdb : (x == ("__debug__" : Str)) = false) (he : starEach (a :: es) X.env = (false, eval a X.env) :: starEach es X.env) (hpl : (backTo pos (starEach es X.env)).any (·.1) = false) :
    PE X (.Call (.Name x p1) (a :: es) [] pos) (tE X.K cl Φ W (.prim p ees)) :=
  (pe_callTy hc hg hm hv ha hn hdb he hpl).imp fun σ H Q h => (s_all (s_prim (nox_primF p) (fun _ _ => rfl) h)).imp fun vs H1 hl h => ⟨h.pv, hl⟩
/-! ### subscripts and slices -/
theorem e_ix (hu : X.A.units + 1 < cLine) (ha : PE X a (tE X.K cl Φ W ea)) (hb : PE X b (tE X.K cl Φ W eb)) (hs : PlainIx b) : PE X (.Subscript a b pos) (tE X.K cl Φ W (.prim .idx (.cons ea (.cons eb .nil)))) :=
  (pe_ix (ix_E hu) ha hb hs).imp fun σ H Q h => tE.imp (s_two (s_prim (nox_primF .idx) (fun _ _ => rfl) h)) fun _ _ h => tE.imp h fun _ _ h => h.pv
/-- a part of a slice -/
def PostO (K : PySem.W.Frag) (al : List Addr) (fz : Addr → Prop) (H : Hp) (b : Option Int) (st' : List Ob) (Q : Option Int → Hp → Prop) : Prop :=
  ∀ H' fz', Go al fz H fz' H' → Ok K al fz' st' H' → Q b H'
def tO (K : PySem.W.Frag) (cl : Nat → Value) (Φ : Calls) (W : WX) (e : Oe) : TO := fun σ H Q => ∃ al fz st env, Ok K al fz st H ∧ EnvO K al fz H σ env ∧ Dn K al fz H (WE W σ) cl (evO Φ e env st) fun r st' => PostO K al fz H r st' Q
theorem _root_.L2.PO.imp {X : Cx} {e : Option Expr} {t t' : TO} (h : PO X e t) (q : ∀ σ H Q, t' σ H Q → t σ H Q) : PO X e t' := ⟨fun pins s σ H Q I z => h.run pins s σ H Q I (q σ H Q z)⟩
theorem o_none : PO X none (tO X.K cl Φ W .no) := po_none.imp fun σ H Q h => by
  obtain ⟨al, fz, st, env, ok, eo, h⟩ := h
  exact h H fz Go.refl ok
theorem o_some (ha : PE X a (tE X.K cl Φ W ea)) : PO X (some a) (tO X.K cl Φ W (.yes ea)) := (po_some ha).imp fun σ H Q h => by
  obtain ⟨al, fz, st, env, ok, eo, h⟩ := h
  unfold evO at h
  refine tE.mk ok eo (Dn.bind h) fun r st' v H1 fz1 p g ok1 eo1 rr fr => ?_
  split at p
  · rename_i i
    exact ⟨i, rp_int rr, (show PostO X.K al fz H (some i) st' Q from p) H1 fz1 g ok1⟩
  · exact p.elim
theorem nox_slc (r : R) (l h : Option Int) (st : List Ob) : ∀ c st', slcF r l h st ≠ .exc c st' := by
  intro c st' e
  unfold slcF at e
  repeat' (first | cases e | split at e)
theorem e_slice {lo hi : Option Expr} {el eh : Oe} {p2 : Pos} (ha : PE X a (tE X.K cl Φ W ea)) (hl : PO X lo (tO X.K cl Φ W el)) (hh : PO X hi (tO X.K cl Φ W eh)) : PE X (.Subscript a (.Slice lo hi none p2) pos) (tE X.K cl Φ W (.slc ea el eh)) :=
  (pe_slice sl_E ha hl hh).imp fun σ H Q h => by
    obtain ⟨al, fz, st, env, ok, eo, h⟩ := h
    unfold evE at h
    refine tE.mk ok eo (Dn.bind h) fun r st1 v H1 fz1 p1 g1 ok1 eo1 rr1 fr1 => ?_
    refine ⟨al, fz1, st1, env, ok1, eo1, ((Dn.bind p1).from g1).mono fun l st2 p2 H2 fz2 g2 ok2 => ?_⟩
    refine ⟨al, fz2, st2, env, ok2, eo1.kp ok1 g2, ((Dn.bind p2).from (g1.trans g2)).mono fun u st3 p3 H3 fz3 g3 ok3 => ?_⟩
    have rr3 := (rr1.kp ok1 g2).kp ok2 g3
    cases e : slcF r l u st3 with
    | err =>
      rw [e] at p3
      exact p3.elim
    | exc c st' => exact absurd e (nox_slc _ _ _ _ _ _)
    | ok r' st4 =>
      rw [e] at p3
      exact ⟨al, fz3, st3, r, r', st4, ok3, rr3, e, Post.from (g1.trans (g2.trans g3)) p3⟩
/-! ### methods -/
theorem methOk_ty {p : Prim} {K : PySem.W.Frag} {al : List Addr} {fz : Addr → Prop} {H : Hp} {st : List Ob} {x : V} {r : R} (ok : Ok K al fz st H) (h : RR K al fz H x r) (e : methOk p r st = true) : tyV K (mtT p) x H := by
  unfold methOk at e
  split at e
  · obtain ⟨rfl, _⟩ := rp_str h
    have := of_decide_eq_true e
    subst this
    rfl
  · rename_i i
    rw [Bool.and_eq_true] at e
    obtain ⟨e1, e2⟩ := e
    have e1 : p ≠ .join := by simpa using e1
    obtain ⟨a, rfl, ha⟩ := h
    obtain ⟨b, hb, r⟩ := ok.get ha
    unfold isObjL at e2
    rw [hb] at e2
    cases b with
    | lst ds =>
      obtain ⟨xs, h1, _⟩ := r
      refine .inl ⟨?_, xs, sq_new h1⟩
      unfold mtT
      rw [if_neg e1]
    | dic kvs => cases e2
    | dit l kvs => cases e2
  · cases e
theorem e_meth {p : Prim} {T id : String} {name : Str} {apos : Pos} (pa : PlainAttrs T) (slot : Slot T name id) (hty : typeOf (.builtin id) = pure (.type "method_descriptor")) (hm : MtR X id (MV X.K p)) (eT : T = mtT p)
    (ha : PE X a (tE X.K cl Φ W ea)) (hb : PE X b (tE X.K cl Φ W eb)) (hbase : attributeBase a name X.env (eval a X.env) = eval a X.env)
    (hfew : ((backTo pos (starEach [b] X.env)).all (fun x => !x.1) && (backToKw pos (keywordEach [] X.env)).all (fun x => x.1.isSome) && decide ([b].length + ([] : List Keyword).length + (if ([] : List Keyword).isEmpty then 0 else 1) < 30)) = true)
    (hline : (apos.endLine == pos.line) = true) (hs : starEach [b] X.env = (false, eval b X.env) :: starEach [] X.env) : PE X (.Call (.Attribute a name apos) [b] [] pos) (tE X.K cl Φ W (.meth p ea eb)) :=
  (pe_bm pa slot hty hm ha (pa_cons hb pa_nil hs) hbase hfew hline hs rfl).imp fun σ H Q h => by
    obtain ⟨al, fz, st, env, ok, eo, h⟩ := h
    unfold evE at h
    refine tE.mk ok eo (Dn.bind h) fun r st1 v H1 fz1 p1 g1 ok1 eo1 rr1 fr1 => ?_
    by_cases c : methOk p r st1 = true
    · rw [if_pos c] at p1
      refine ⟨by rw [eT]; exact methOk_ty ok1 rr1 c, ?_⟩
      refine tE.mk ok1 eo1 ((Dn.bind p1).from g1) fun r2 st2 y H2 fz2 p2 g2 ok2 eo2 rr2 fr2 => ?_
      refine ⟨?_, rfl⟩
      have t : Ars X.K al fz2 H H2 [v, y] [r, r2] := Ars.cons ok1 g1 rr1 fr1 g2 (Ars.cons ok2 g2 rr2 fr2 Go.refl Ars.nil)
      cases e : primF p [r, r2] st2 with
      | err =>
        rw [e] at p2
        exact p2.elim
      | exc c st' => exact absurd e (nox_primF p _ _ _ _)
      | ok r' st3 =>
        rw [e] at p2
        exact ⟨al, fz, H, fz2, st2, [r, r2], r', st3, g1.trans g2, ok2, t, e, p2⟩
    · rw [if_neg c] at p1
      exact p1.elim
/-! ### isinstance -/
def tyS : Ty → String
  | .tuple => "tuple"
  | .list => "list"
  | .str => "str"
  | .int => "int"
  | .bool => "bool"
theorem ty_of {K : PySem.W.Frag} {al : List Addr} {fz : Addr → Prop} {H : Hp} {st : List Ob} {x : V} {r : R} (ok : Ok K al fz st H) (h : RR K al fz H x r) (hl : lockd st r = false) : ∃ tn : String, TyX K H x (.type tn) ∧ ∀ c, kitB tn (tyS c) = some (isaD st r c) := by
  have ob : ∀ {a : Addr} {b : Ob}, Ro K H fz a b → (∀ kvs, b ≠ .dit true kvs) → ∃ tn : String, TyX K H (.ref a) (.type tn) ∧ (tn = match b with | .lst _ => "list" | .dic _ => "dict" | .dit _ _ => "dict") := fun {a b} r nl => by
    cases b with
    | dit l kvs =>
      cases l with
      | true => exact absurd rfl (nl kvs)
      | false =>
        obtain ⟨xs, h1, _⟩ := r
        exact ⟨"dict", .base (.dT h1), rfl⟩
    | lst ds =>
      obtain ⟨xs, h1, _⟩ := r
      exact ⟨"list", .base (.lst h1), rfl⟩
    | dic kvs =>
      obtain ⟨xs, h1, _⟩ := r
      exact ⟨"dict", .base (.dK h1), rfl⟩
  cases r with
  | d z =>
    cases h with
    | non => exact ⟨"NoneType", .base .non, fun c => by cases c <;> first | (show _ = some true; decide +kernel) | (show _ = some false; decide +kernel)⟩
    | bl b => exact ⟨"bool", .base (.bl b), fun c => by cases c <;> first | (show _ = some true; decide +kernel) | (show _ = some false; decide +kernel)⟩
    | int i => exact ⟨"int", .base (.int i), fun c => by cases c <;> first | (show _ = some true; decide +kernel) | (show _ = some false; decide +kernel)⟩
    | str s _ => exact ⟨"str", .base (.str s), fun c => by cases c <;> first | (show _ = some true; decide +kernel) | (show _ = some false; decide +kernel)⟩
    | lst h1 h2 h3 =>
      rcases h1.sq with (h1 | ⟨o, h1⟩) | ⟨o, its, n, h1, h2, _⟩
      · exact ⟨"list", .base (.lst h1), fun c => by cases c <;> first | (show _ = some true; decide +kernel) | (show _ = some false; decide +kernel)⟩
      · exact ⟨"list", .base (.frz h1), fun c => by cases c <;> first | (show _ = some true; decide +kernel) | (show _ = some false; decide +kernel)⟩
      · exact ⟨"list", .kList h1 h2, fun c => by cases c <;> first | (show _ = some true; decide +kernel) | (show _ = some false; decide +kernel)⟩
    | tup h1 h2 h3 =>
      rcases h1.rd with h1 | ⟨o, h1⟩
      · exact ⟨"tuple", .base (.tup h1), fun c => by cases c <;> first | (show _ = some true; decide +kernel) | (show _ = some false; decide +kernel)⟩
      · exact ⟨"tuple", .fTuple h1, fun c => by cases c <;> first | (show _ = some true; decide +kernel) | (show _ = some false; decide +kernel)⟩
  | o i =>
    obtain ⟨a, rfl, ha⟩ := h
    obtain ⟨b, hb, r⟩ := ok.get ha
    obtain ⟨tn, t, e⟩ := ob r fun kvs z => by
      subst z
      simp [lockd, hb] at hl
    refine ⟨tn, t, fun c => ?_⟩
    subst e
    cases b with
    | lst ds => cases c <;> simp only [isaD, hb] <;> first | (show _ = some true; decide +kernel) | (show _ = some false; decide +kernel)
    | dic kvs => cases c <;> simp only [isaD, hb] <;> first | (show _ = some true; decide +kernel) | (show _ = some false; decide +kernel)
    | dit l kvs => cases c <;> simp only [isaD, hb] <;> first | (show _ = some true; decide +kernel) | (show _ = some false; decide +kernel)
  | f b =>
    obtain ⟨a, rfl, r, _, _⟩ := h
    obtain ⟨tn, t, e⟩ := ob r fun kvs z => by
      subst z
      simp [lockd] at hl
    refine ⟨tn, t, fun c => ?_⟩
    subst e
    cases b with
    | lst ds => cases c <;> simp only [isaD] <;> first | (show _ = some true; decide +kernel) | (show _ = some false; decide +kernel)
    | dic kvs => cases c <;> simp only [isaD] <;> first | (show _ = some true; decide +kernel) | (show _ = some false; decide +kernel)
    | dit l kvs => cases c <;> simp only [isaD] <;> first | (show _ = some true; decide +kernel) | (show _ = some false; decide +kernel)
theorem e_isa1 {x : Str} {y : Str} {t : Ty} {p1 p2 : Pos} (hg : Gl X x) (hm : X.mg x = none) (hv : bootBuiltins x = some (.builtin "isinstance")) (hn : x ≠ "__name__") (hdb : (x == ("__debug__" : Str)) = false)
    (hg2 : Gl X y) (hm2 : X.mg y = none) (hv2 : bootBuiltins y = some (.type (tyS t))) (hn2 : y ≠ "__name__") (hdb2 : (y == ("__debug__" : Str)) = false) (ha : PE X a (tE X.K cl Φ W ea))
    (he : starEach [a, .Name y p2] X.env = (false, eval a X.env) :: starEach [.Name y p2] X.env) : PE X (.Call (.Name x p1) [a, .Name y p2] [] pos) (tE X.K cl Φ W (.prim (.isa [t]) (.cons ea .nil))) :=
  (pe_callB call_isi hg hm hv (pa_cons ha (pa_cons (pe_bltn hg2 hm2 hv2 (show RelV (.ty (tyS t)) _ from rfl) hn2 hdb2) pa_nil rfl) he) hn hdb he rfl).imp fun σ H Q h => tE.imp (s_one (s_prim (nox_primF _) (fun _ _ => rfl) h)) fun v H1 h => by
    obtain ⟨al, fz0, H0, fz, st, rs, r, st', g, ok, tt, e, q⟩ := h
    obtain ⟨r1, rfl, h1⟩ := paired1 tt.rr
    have e : (if lockd st r1 then .err else okB ([t].any fun c => isaD st r1 c) st) = .ok r st' := e
    cases hl : lockd st r1 with
    | true => rw [hl] at e; cases e
    | false =>
    rw [hl] at e
    obtain ⟨tn, ty, k⟩ := ty_of ok h1 hl
    obtain ⟨rfl, rfl⟩ := okB_ok (show okB ([t].any fun c => isaD st r1 c) st = .ok r st' from e)
    refine ⟨v, .ty (tyS t), .type tn, .type (tyS t), isaD st' r1 t, rfl, .ty _, ty, kit_ty (k t), ?_⟩
    have := (Post.from g q).dat ok (.bl _)
    simpa using this
theorem e_isa2 {x : Str} {y z : Str} {t u : Ty} {p1 p2 p3 pt : Pos} {kt : Nat} (hg : Gl X x) (hm : X.mg x = none) (hv : bootBuiltins x = some (.builtin "isinstance")) (hn : x ≠ "__name__") (hdb : (x == ("__debug__" : Str)) = false)
    (hg2 : Gl X y) (hm2 : X.mg y = none) (hv2 : bootBuiltins y = some (.type (tyS t))) (hn2 : y ≠ "__name__") (hdb2 : (y == ("__debug__" : Str)) = false)
    (hg3 : Gl X z) (hm3 : X.mg z = none) (hv3 : bootBuiltins z = some (.type (tyS u))) (hn3 : z ≠ "__name__") (hdb3 : (z == ("__debug__" : Str)) = false) (ha : PE X a (tE X.K cl Φ W ea))
    (he : starEach [a, .Tuple [.Name y p2, .Name z p3] kt pt] X.env = (false, eval a X.env) :: starEach [.Tuple [.Name y p2, .Name z p3] kt pt] X.env) : PE X (.Call (.Name x p1) [a, .Tuple [.Name y p2, .Name z p3] kt pt] [] pos) (tE X.K cl Φ W (.prim (.isa [t, u]) (.cons ea .nil))) :=
  (pe_callB call_isiT hg hm hv (pa_cons ha (pa_cons (pe_tup (pa_cons (pe_bltn hg2 hm2 hv2 (show RelV (.ty (tyS t)) _ from rfl) hn2 hdb2) (pa_cons (pe_bltn hg3 hm3 hv3 (show RelV (.ty (tyS u)) _ from rfl) hn3 hdb3) pa_nil rfl) rfl)) pa_nil rfl) he) hn hdb he rfl).imp fun σ H Q h => tE.imp (s_one (s_prim (nox_primF _) (fun _ _ => rfl) h)) fun v H1 h => by
    obtain ⟨al, fz0, H0, fz, st, rs, r, st', g, ok, tt, e, q⟩ := h
    obtain ⟨r1, rfl, h1⟩ := paired1 tt.rr
    have e : (if lockd st r1 then .err else okB ([t, u].any fun c => isaD st r1 c) st) = .ok r st' := e
    cases hl : lockd st r1 with
    | true => rw [hl] at e; cases e
    | false =>
    rw [hl] at e
    obtain ⟨rfl, rfl⟩ := okB_ok (show okB ([t, u].any fun c => isaD st r1 c) st = .ok r st' from e)
    refine ⟨by show 2 ≤ sizeLine; decide, fun p n => ?_⟩
    have ok2 : Ok X.K al fz st' (upd H1 p (.tup [.ty (tyS t), .ty (tyS u)])) := ok.new n
    have g2 : Go al fz H1 fz (upd H1 p (.tup [.ty (tyS t), .ty (tyS u)])) := go_new n
    obtain ⟨tn, ty, k⟩ := ty_of ok2 (h1.kp ok g2) hl
    refine ⟨v, p, [.ty (tyS t), .ty (tyS u)], .type tn, [.type (tyS t), .type (tyS u)], isaD st' r1 t || isaD st' r1 u, rfl, upd_same, .cons (.ty _) (.cons (.ty _) .nil), ty, ?_, ?_⟩
    · refine kitAny_cons (kit_ty (k t)) (fun h => ?_) (fun h => by rw [h]; rfl)
      refine kitAny_cons (kit_ty (k u)) (fun h2 => by rw [h, h2]; exact kitAny_nil) (fun h2 => by rw [h2, Bool.or_true])
    · have := (Post.from (g.trans g2) q).dat ok2 (.bl _)
      simpa using this
/-! ### own functions -/
/-- what a def promises -/
def spF (K : PySem.W.Frag) (cl : Nat → Value) (Φ : Calls) (f np : Nat) : Sp := fun vs H Q E => vs.length = np ∧ ∃ al fz0 H0 fz st rs, Go al fz0 H0 fz H ∧ Ok K al fz st H ∧ Ars K al fz H0 H vs rs ∧ Dn K al fz0 H0 E cl (Φ f rs st) fun r st' => Post K al fz0 H0 r st' Q
theorem s_call {f np : Nat} {σ : L2.St} {H : Hp} {Q : VK} (hl : ees.len = np) (h : tE X.K cl Φ W (.call f ees) σ H Q) : tAll X.K cl Φ W ees σ H fun vs H1 => spF X.K cl Φ f np vs H1 Q (WE W σ) := by
  obtain ⟨al, fz, st, env, ok, eo, h⟩ := s_args (p := Φ f) (es := ees) (fun _ _ => rfl) h
  have h2 : tEs X.K cl Φ W ees σ H fun vs H1 => ∃ al fz0 H0 fz st rs, Go al fz0 H0 fz H1 ∧ Ok X.K al fz st H1 ∧ Ars X.K al fz H0 H1 vs rs ∧ Dn X.K al fz0 H0 (WE W σ) cl (Φ f rs st) fun r st' => Post X.K al fz0 H0 r st' Q :=
    ⟨al, fz, st, env, ok, eo, h.mono fun rs st1 d vs H1 fz1 g ok1 t => ⟨al, fz, H, fz1, st1, rs, g, ok1, t, d⟩⟩
  exact (s_all h2).imp fun vs H1 hv h => ⟨by rw [hv, hl], h⟩
theorem e_call {k f np : Nat} {fa : Addr} {fd : FuncData} {ps : List Str} {x : Str} {p : Pos} (F : FnOk X.prog X.w X.K X.mg X.base (L2.CX X.prog X.w) k fa fd ps (spF X.K cl Φ f np)) (hr : Room k X.A) (hg : Gl X x) (hm : X.mg x = some (.ref fa)) (hk : PySem.W.keepIn X.K (.ref fa) = true) (hb : Binds X.K fd ps []) (tk : Takes X W)
    (ha : PA X (a :: es) (tAll X.K cl Φ W ees)) (hl : ees.len = np) (hdb : (x == ("__debug__" : Str)) = false) (he : starEach (a :: es) X.env = (false, eval a X.env) :: starEach es X.env) (hpl : (backTo pos (starEach es X.env)).any (·.1) = false) :
    PE X (.Call (.Name x p) (a :: es) [] pos) (tE X.K cl Φ W (.call f ees)) :=
  (pe_callS F hr hg hm hk hb (fun σ => passAt tk σ) ha hdb he hpl).imp fun σ H Q h => s_call hl h
end
end Ev

/-! Ev11: statements -/
namespace Ev
open PySem PySem.Spec PyProof.Rows L2
/-- the store may grow -/
structure GoX (al : List Addr) (fz : Addr → Prop) (H : Hp) (al' : List Addr) (fz' : Addr → Prop) (H' : Hp) : Prop where
  ext : ∃ ex, al' = al ++ ex ∧ ∀ a ∈ ex, H a = none
  go : Go al fz H fz' H'
section
variable {K : PySem.W.Frag} {al al' al1 al2 : List Addr} {fz fz' fz0 fz1 fz2 : Addr → Prop} {H H' H0 H1 H2 : Hp} {cl : Nat → Value} {W : WX} {st st' : List Ob} {σ : L2.St} {env : Envr} {v : V} {r : R}
theorem GoX.of (g : Go al fz H fz' H') : GoX al fz H al fz' H' := ⟨⟨[], by simp, fun _ h => by cases h⟩, g⟩
theorem GoX.refl : GoX al fz H al fz H := .of Go.refl
theorem GoX.trans (g : GoX al fz H al1 fz1 H1) (g' : GoX al1 fz1 H1 al2 fz2 H2) : GoX al fz H al2 fz2 H2 := by
  obtain ⟨⟨ex, rfl, h1⟩, g1⟩ := g
  obtain ⟨⟨ex2, rfl, h2⟩, g2⟩ := g'
  refine ⟨⟨ex ++ ex2, by simp, fun a m => ?_⟩, ?_⟩
  · rcases List.mem_append.mp m with m | m
    · exact h1 a m
    · exact g1.back (h2 a m)
  · refine ⟨fun a o h n => g2.keep a o (g1.keep a o h n) fun m => ?_, fun a h => g2.there a (g1.there a h), fun a h => g2.sub a (g1.sub a h), fun a h => ?_, fun a o u h => g2.lk a o u (g1.lk a o u h)⟩
    · rcases List.mem_append.mp m with m | m
      · exact n m
      · rw [h1 a m] at h
        cases h
    · rcases g2.new a h with h | h
      · exact g1.new a h
      · exact .inr (g1.back h)
/-- what is known stays known while the store grows -/
theorem Ok.kpX (ok : Ok K al fz st H) (g : GoX al fz H al' fz' H') : Kp H fz H' fz' := ok.kp g.go
theorem RR.kpX (ok : Ok K al fz st H) (g : GoX al fz H al' fz' H') (nf : ∀ b, r ≠ .f b) (h : RR K al fz H v r) : RR K al' fz' H' v r := by
  obtain ⟨⟨ex, rfl, _⟩, g2⟩ := g
  cases r with
  | d x => exact Rp.kp (ok.kp g2) h
  | o i =>
    obtain ⟨a, e, ha⟩ := h
    refine ⟨a, e, ?_⟩
    rw [List.getElem?_append_left (List.getElem?_eq_some_iff.mp ha).1]
    exact ha
  | f b => exact absurd rfl (nf b)
theorem EnvO.kpX (e : EnvO K al fz H σ env) (ok : Ok K al fz st H) (g : GoX al fz H al' fz' H') : EnvO K al' fz' H' σ env :=
  ⟨e.len, fun i r h => ⟨(e.at_ i r h).1, by
    obtain ⟨v, h1, h2⟩ := (e.at_ i r h).2
    exact ⟨v, h1, h2.kpX ok g (e.at_ i r h).1⟩⟩⟩
theorem EnvO.set (e : EnvO K al fz H σ env) {i : Nat} (h : RR K al fz H v r) (nf : ∀ b, r ≠ .f b) : EnvO K al fz H (σ.set i (some v)) (env.set i (some r)) := by
  refine ⟨by rw [List.length_set, List.length_set]; exact e.len, fun j q hj => ?_⟩
  rw [List.getElem?_set] at hj
  by_cases c : i = j
  · subst c
    rw [if_pos rfl] at hj
    split at hj
    · rename_i hl
      cases hj
      refine ⟨nf, v, ?_, h⟩
      rw [List.getElem?_set, if_pos rfl, if_pos (by rw [← e.len]; exact hl)]
    · cases hj
  · rw [if_neg c] at hj
    obtain ⟨h1, w, h2, h3⟩ := e.at_ j q hj
    refine ⟨h1, w, ?_, h3⟩
    rw [List.getElem?_set, if_neg c]
    exact h2
theorem EnvO.wipe (e : EnvO K al fz H σ env) : ∀ vs : List Nat, EnvO K al fz H (wipe σ vs) (wipeE env vs)
  | [] => e
  | v :: vs => by
    have ih := e.wipe vs
    refine ⟨by unfold L2.wipe wipeE; rw [List.length_set, List.length_set]; exact ih.len, fun j q hj => ?_⟩
    unfold wipeE at hj
    rw [List.getElem?_set] at hj
    by_cases c : v = j
    · subst c
      rw [if_pos rfl] at hj
      split at hj <;> cases hj
    · rw [if_neg c] at hj
      obtain ⟨h1, w, h2, h3⟩ := ih.at_ j q hj
      refine ⟨h1, w, ?_, h3⟩
      unfold L2.wipe
      rw [List.getElem?_set, if_neg c]
      exact h2
/-- an object goes into the store -/
theorem Ok.add (ok : Ok K al fz st H) {a : Addr} {b : Ob} (h : Ro K H fz a b) (n : a ∉ al) (nf : ¬ fz a) : Ok K (al ++ [a]) fz (st ++ [b]) H := by
  refine ⟨List.nodup_append.mpr ⟨ok.nd, List.nodup_cons.mpr ⟨by simp, List.nodup_nil⟩, fun x hx y hy => ?_⟩, paired_app ok.obs (.cons h .nil), fun x m => ?_, ok.trk⟩
  · have : y = a := by simpa using hy
    subst this
    rintro rfl
    exact n hx
  · rcases List.mem_append.mp m with m | m
    · exact ok.dis x m
    · have : x = a := by simpa using m
      subst this
      exact nf
theorem alloc_go (ok : Ok K al fz st H) (g : Go al fz0 H0 fz H) (h : RR K al fz H v r) (f : Fresh H0 v r) :
    ∃ al', GoX al fz0 H0 al' fz H ∧ Ok K al' fz (alloc r st).2 H ∧ RR K al' fz H v (alloc r st).1 ∧ (∀ b, (alloc r st).1 ≠ .f b) ∧ ∃ ex, al' = al ++ ex ∧ ∀ a ∈ ex, ∃ b, v = .ref a ∧ r = .f b := by
  cases r with
  | d x => exact ⟨al, .of g, ok, h, fun _ e => (by cases e), [], by simp, fun _ h => (by cases h)⟩
  | o i => exact ⟨al, .of g, ok, h, fun _ e => (by cases e), [], by simp, fun _ h => (by cases h)⟩
  | f b =>
    obtain ⟨a, rfl, q, n, nf⟩ := h
    refine ⟨al ++ [a], ⟨⟨[a], rfl, fun x m => ?_⟩, g⟩, ok.add q n nf, ⟨a, rfl, ?_⟩, fun _ e => (by cases e), [a], rfl, fun x m => ?_⟩
    · have : x = a := by simpa using m
      subst this
      exact f b _ rfl rfl
    · rw [← ok.len]
      simp
    · have : x = a := by simpa using m
      subst this
      exact ⟨b, rfl, rfl⟩
/-- slots, when the store grows but the heap is as it was -/
theorem EnvO.ext (e : EnvO K al fz H σ env) {ex : List Addr} : EnvO K (al ++ ex) fz H σ env :=
  ⟨e.len, fun i r h => ⟨(e.at_ i r h).1, by
    obtain ⟨v, h1, h2⟩ := (e.at_ i r h).2
    refine ⟨v, h1, ?_⟩
    cases r with
    | d x => exact h2
    | o i =>
      obtain ⟨a, e, ha⟩ := h2
      refine ⟨a, e, ?_⟩
      rw [List.getElem?_append_left (List.getElem?_eq_some_iff.mp ha).1]
      exact ha
    | f b => exact absurd rfl ((e.at_ i _ h).1 b)⟩⟩
end
/-- what a run of statements leads to -/
def DnF (K : PySem.W.Frag) (al : List Addr) (fz : Addr → Prop) (H : Hp) (W : WX) (cl : Nat → Value) (r : Fl) (D : Ends) : Prop :=
  match r with
  | .next env st => ∀ al' H' fz' σ', GoX al fz H al' fz' H' → Ok K al' fz' st H' → EnvO K al' fz' H' σ' env → D.nx σ' H'
  | .brk env st => ∀ al' H' fz' σ', GoX al fz H al' fz' H' → Ok K al' fz' st H' → EnvO K al' fz' H' σ' env → D.bk σ' H'
  | .cont env st => ∀ al' H' fz' σ', GoX al fz H al' fz' H' → Ok K al' fz' st H' → EnvO K al' fz' H' σ' env → D.ct σ' H'
  | .ret r st => ∀ v al' H' fz', GoX al fz H al' fz' H' → Ok K al' fz' st H' → RR K al' fz' H' v r → Fresh H v r → D.rt v H'
  | .exc c env st => ∀ al' H' fz' σ', GoX al fz H al' fz' H' → Ok K al' fz' st H' → EnvO K al' fz' H' σ' env → W (cl c) none σ' H'
  | .err => False
def tS (K : PySem.W.Frag) (cl : Nat → Value) (Φ : Calls) (W : WX) (s : S) : TS := fun D σ H => ∃ al fz st env, Ok K al fz st H ∧ EnvO K al fz H σ env ∧ DnF K al fz H W cl (exS Φ s env st) D
def tSs (K : PySem.W.Frag) (cl : Nat → Value) (Φ : Calls) (W : WX) (s : Ss) : TS := fun D σ H => ∃ al fz st env, Ok K al fz st H ∧ EnvO K al fz H σ env ∧ DnF K al fz H W cl (exSs Φ s env st) D
section
variable {K : PySem.W.Frag} {al al1 : List Addr} {fz fz1 : Addr → Prop} {H H1 : Hp} {cl : Nat → Value} {Φ : Calls} {W : WX} {st : List Ob} {σ : L2.St} {env : Envr} {D : Ends}
theorem DnF.from {r : Fl} (g : GoX al fz H al1 fz1 H1) (h : DnF K al fz H W cl r D) : DnF K al1 fz1 H1 W cl r D := by
  cases r with
  | next env st => exact fun al' H' fz' σ' g' => h al' H' fz' σ' (g.trans g')
  | brk env st => exact fun al' H' fz' σ' g' => h al' H' fz' σ' (g.trans g')
  | cont env st => exact fun al' H' fz' σ' g' => h al' H' fz' σ' (g.trans g')
  | ret r st => exact fun v al' H' fz' g' ok rr f => h v al' H' fz' (g.trans g') ok rr (f.back g.go)
  | exc c env st => exact fun al' H' fz' σ' g' => h al' H' fz' σ' (g.trans g')
  | err => exact h
theorem DnF.fl {α : Type} {r : Rs α} {k : α → List Ob → Fl} (ok : Ok K al fz st H) (eo : EnvO K al fz H σ env) (h : DnF K al fz H W cl (r.fl env k) D) : Dn K al fz H (WE W σ) cl r fun a st' => DnF K al fz H W cl (k a st') D := by
  cases r with
  | ok a st => exact h
  | exc c st => exact fun H' fz' g ok' => h al H' fz' σ (.of g) ok' (eo.kp ok g)
  | err => exact h
theorem tSs.mk {s : Ss} (ok : Ok K al fz st H) (eo : EnvO K al fz H σ env) (h : DnF K al fz H W cl (exSs Φ s env st) D) : tSs K cl Φ W s D σ H := ⟨al, fz, st, env, ok, eo, h⟩
end
section
variable {X : Cx} {cl : Nat → Value} {Φ : Calls} {W : WX} {a b c : Expr} {ea eb ec : E} {pos : Pos} {es : List Expr} {ees : Es}
theorem ss_nil : PSs X [] (tSs X.K cl Φ W .nil) := pss_nil.imp fun D σ H h => by
  obtain ⟨al, fz, st, env, ok, eo, h⟩ := h
  exact h al H fz σ GoX.refl ok eo
theorem ss_cons {s : Stmt} {ss : List Stmt} {es : S} {ess : Ss} (h1 : PS X s (tS X.K cl Φ W es)) (h2 : PSs X ss (tSs X.K cl Φ W ess)) : PSs X (s :: ss) (tSs X.K cl Φ W (.cons es ess)) := (pss_cons h1 h2).imp fun D σ H h => by
  obtain ⟨al, fz, st, env, ok, eo, h⟩ := h
  refine ⟨al, fz, st, env, ok, eo, ?_⟩
  unfold exSs at h
  cases e : exS Φ es env st with
  | next env' st' =>
    rw [e] at h
    exact fun al' H' fz' σ' g ok' eo' => ⟨al', fz', st', env', ok', eo', h.from g⟩
  | brk env' st' => rw [e] at h; exact h
  | cont env' st' => rw [e] at h; exact h
  | ret r st' => rw [e] at h; exact h
  | exc c env' st' => rw [e] at h; exact h
  | err => rw [e] at h; exact h
theorem s_pass : PS X (.Pass pos) (tS X.K cl Φ W .pass) := ps_pass.imp fun D σ H h => by
  obtain ⟨al, fz, st, env, ok, eo, h⟩ := h
  exact h al H fz σ GoX.refl ok eo
theorem s_brk : PS X (.Break pos) (tS X.K cl Φ W .brk) := ps_break.imp fun D σ H h => by
  obtain ⟨al, fz, st, env, ok, eo, h⟩ := h
  exact h al H fz σ GoX.refl ok eo
theorem s_cont : PS X (.Continue pos) (tS X.K cl Φ W .cont) := ps_continue.imp fun D σ H h => by
  obtain ⟨al, fz, st, env, ok, eo, h⟩ := h
  exact h al H fz σ GoX.refl ok eo
theorem s_expr (he : PE X a (tE X.K cl Φ W ea)) (hs : swapsWith a none pos.line X.env = pure false) : PS X (.Expr a pos) (tS X.K cl Φ W (.expr ea)) := (ps_expr he hs).imp fun D σ H h => by
  obtain ⟨al, fz, st, env, ok, eo, h⟩ := h
  unfold exS at h
  refine tE.mk ok eo (DnF.fl ok eo h) fun r st' v H1 fz1 p g ok1 eo1 rr fr => p al H1 fz1 σ (.of g) ok1 eo1
theorem s_ret (he : PE X a (tE X.K cl Φ W ea)) : PS X (.Return (some a) pos) (tS X.K cl Φ W (.ret ea)) := (ps_ret he).imp fun D σ H h => by
  obtain ⟨al, fz, st, env, ok, eo, h⟩ := h
  unfold exS at h
  refine tE.mk ok eo (DnF.fl ok eo h) fun r st' v H1 fz1 p g ok1 eo1 rr fr => p v al H1 fz1 (.of g) ok1 rr fr
theorem s_retN : PS X (.Return none pos) (tS X.K cl Φ W .retN) := ps_retN.imp fun D σ H h => by
  obtain ⟨al, fz, st, env, ok, eo, h⟩ := h
  exact h .non al H fz GoX.refl ok .non Fresh.d
theorem s_if {sa sb : List Stmt} {ssa ssb : Ss} (hc : PT X c (tT X.K cl Φ W ec)) (ha : PSs X sa (tSs X.K cl Φ W ssa)) (hb : PSs X sb (tSs X.K cl Φ W ssb)) : PS X (.If c sa sb pos) (tS X.K cl Φ W (.ite ec ssa ssb)) := (ps_if hc ha hb).imp fun D σ H h => by
  obtain ⟨al, fz, st, env, ok, eo, h⟩ := h
  unfold exS at h
  refine ⟨al, fz, st, env, ok, eo, (DnF.fl ok eo h).mono fun r st' p => ?_⟩
  split at p
  · exact ⟨true, rfl, fun H' fz' g ok' => ⟨al, fz', st', env, ok', eo.kp ok g, p.from (.of g)⟩⟩
  · exact ⟨false, rfl, fun H' fz' g ok' => ⟨al, fz', st', env, ok', eo.kp ok g, p.from (.of g)⟩⟩
  · exact p.elim
/-! ### assignments -/
theorem asg_v {i : Nat} {D : Ends} {σ : L2.St} {H : Hp} (h : tS X.K cl Φ W (.asg i ea) D σ H) : tAsg (tE X.K cl Φ W ea) (gName i) D σ H := by
  obtain ⟨al, fz, st, env, ok, eo, h⟩ := h
  unfold exS at h
  refine tE.mk ok eo (DnF.fl ok eo h) fun r st' v H1 fz1 p g ok1 eo1 rr fr => ?_
  obtain ⟨al', gx, ok2, rr2, nf, ex, rfl, _⟩ := alloc_go ok1 g rr fr
  exact p _ H1 fz1 _ gx ok2 ((eo1.ext).set rr2 nf)
theorem s_asg {i : Nat} {x : Str} {pos' : Pos} (hN : X.N.Nodup) (hi : X.N[i]? = some x) (hx : Loc X.env.scope x) (he : PE X a (tE X.K cl Φ W ea)) (hs : swapsWith a (some (.Name x pos')) pos.line X.env = pure false) (hf : X.fn x = true ∨ X.env.scope.names.lookup x = some .local) :
    PS X (.Assign [.Name x pos'] a pos) (tS X.K cl Φ W (.asg i ea)) := (ps_set hN hi hx he hs hf).imp fun D σ H h => asg_v h
/-- a, b = t -/
def gNs : List Nat → TGs
  | [] => gNil
  | i :: is => gCons (gName i) (gNs is)
theorem gNs_all {K : PySem.W.Frag} {al : List Addr} {fz : Addr → Prop} {H : Hp} {Q : L2.St → Hp → Prop} : ∀ {is : List Nat} {xs : List V} {ds : List D} {σ : L2.St} {env : Envr}, Rps K H fz xs ds → xs.length = is.length → EnvO K al fz H σ env → (∀ σ', EnvO K al fz H σ' (setAll is ds env) → Q σ' H) → gNs is xs σ H Q
  | [], xs, ds, σ, env, h, hl, eo, q => by
    cases h with
    | nil => exact ⟨rfl, q σ eo⟩
    | cons _ _ => cases hl
  | i :: is, xs, ds, σ, env, h, hl, eo, q => by
    cases h with
    | nil => cases hl
    | cons h1 h2 => exact ⟨_, _, rfl, gNs_all h2 (by simpa using hl) (eo.set (r := .d _) h1 fun _ e => by cases e) q⟩
theorem tup_v {is : List Nat} {D : Ends} {σ : L2.St} {H : Hp} (h : tS X.K cl Φ W (.tupa is ea) D σ H) : tAsg (tE X.K cl Φ W ea) (gTup X.K is.length (gNs is)) D σ H := by
  obtain ⟨al, fz, st, env, ok, eo, h⟩ := h
  unfold exS at h
  refine tE.mk ok eo (DnF.fl ok eo h) fun r st' v H1 fz1 p g ok1 eo1 rr fr => ?_
  split at p
  · rename_i ds
    by_cases c : ds.length = is.length
    · rw [if_pos c] at p
      obtain ⟨a, xs, rfl, hH, z, q⟩ := rp_tup (show Rp X.K H1 fz1 v (.tuple ds) from rr)
      exact ⟨a, xs, rfl, .inl hH.rd, q.len.trans c, gNs_all q (q.len.trans c) eo1 fun σ' e => p al H1 fz1 σ' (.of g) ok1 e⟩
    · rw [if_neg c] at p
      exact p.elim
  · exact p.elim
/-- o[i] = v -/
def rSetE : TSet := fun o i v H Q => rSetL o i v H Q ∨ ∃ a H', o = .ref a ∧ DPut H a i v H' ∧ Q H'
theorem set_E (hu : X.A.units + 1 < cLine) : PSet X rSetE := by
  intro pins s σ H o i v ov iv u Q I ro ri rv h
  rcases h with h | ⟨a, H', rfl, g, q⟩
  · exact set_list pins s σ H o i v ov iv u Q I ro ri rv h
  · cases ro
    exact d_setItem hu I g ri rv fun s' I' => ⟨H', I', q⟩
theorem Ok.updO {K : PySem.W.Frag} {al : List Addr} {fz : Addr → Prop} {H : Hp} {st : List Ob} (ok : Ok K al fz st H) {i : Nat} {a : Addr} {o : HO} {b : Ob} (hi : al[i]? = some a) (nl : ∀ q u, H a ≠ some (.frz q u)) (r : Kp H fz (L2.upd H a o) fz → Ro K (L2.upd H a o) fz a b) : Ok K al fz (st.set i b) (L2.upd H a o) ∧ Go al fz H fz (L2.upd H a o) := by
  have m : a ∈ al := List.mem_of_getElem? hi
  have g : Go al fz H fz (L2.upd H a o) := go_upd m nl
  exact ⟨ok.upd hi (r (ok.kp g)), g⟩
theorem sub_v {eo' ei : E} {D : Ends} {σ : L2.St} {H : Hp} (h : tS X.K cl Φ W (.sub eo' ei ea) D σ H) : tAsg (tE X.K cl Φ W ea) (gSub (tE X.K cl Φ W eo') (tE X.K cl Φ W ei) rSetE) D σ H := by
  obtain ⟨al, fz, st, env, ok, eo, h⟩ := h
  unfold exS at h
  refine tE.mk ok eo (DnF.fl ok eo h) fun r1 st1 v H1 fz1 p1 g1 ok1 eo1 rr1 fr1 => ?_
  refine tE.mk ok1 eo1 ((DnF.fl ok eo p1).from g1) fun r2 st2 o H2 fz2 p2 g2 ok2 eo2 rr2 fr2 => ?_
  refine tE.mk ok2 eo2 ((DnF.fl ok eo p2).from (g1.trans g2)) fun r3 st3 i H3 fz3 p3 g3 ok3 eo3 rr3 fr3 => ?_
  split at p3
  · rename_i st' hs
    have t : Ars X.K al fz3 H H3 [v, o, i] [r1, r2, r3] := Ars.cons ok1 g1 rr1 fr1 (g2.trans g3) (Ars.cons ok2 g2 rr2 fr2 g3 (Ars.cons ok3 g3 rr3 fr3 Go.refl Ars.nil))
    have g13 := g1.trans (g2.trans g3)
    unfold subF at hs
    split at hs
    · rename_i n k d hd
      obtain ⟨fz4, g4, ok4, hv, t', kp4⟩ := t.fix g13 ok3 hd
      have eo4 : EnvO X.K al fz4 H3 σ env := ⟨eo3.len, fun j q hj => ⟨(eo3.at_ j q hj).1, by
        obtain ⟨w, h1, h2⟩ := (eo3.at_ j q hj).2
        refine ⟨w, h1, ?_⟩
        cases q with
        | d z => exact Rp.kp kp4 h2
        | o z => exact h2
        | f z => exact absurd rfl ((eo3.at_ j _ hj).1 z)⟩⟩
      have hrr := t'.rr
      cases hrr with
      | cons ho hrr =>
        cases hrr with
        | cons hi _ =>
          have hi : Rp X.K H3 fz4 i k := hi
          obtain ⟨a, rfl, ha⟩ := ho
          obtain ⟨b, hb, r⟩ := ok4.get ha
          rw [hb] at hs
          cases b with
          | lst xs =>
            cases k with
            | int j =>
              dsimp only at hs
              split at hs
              · rename_i hj
                cases hs
                obtain ⟨ys, h1, z, q⟩ := r
                have := rp_int hi
                subst this
                refine .inl ⟨a, ys, j, j.toNat, rfl, rfl, h1, ?_, ?_⟩
                · unfold ixN
                  rw [if_pos hj.1, if_pos (by rw [q.len]; omega)]
                · obtain ⟨ok5, g5⟩ := ok4.updO (o := .lst (ys.set j.toNat v)) (b := .lst (xs.set j.toNat d)) ha (fun q u e => by rw [h1] at e; cases e) fun kk => ⟨_, upd_same, by rw [List.length_set]; exact z, (q.set hv _).kp kk⟩
                  exact p3 al _ fz4 σ (.of (g4.trans g5)) ok5 (eo4.kp ok4 g5)
              · cases hs
            | _ => cases hs
          | dic kvs =>
            dsimp only at hs
            split at hs
            · rename_i hk
              cases hs
              obtain ⟨ks, h1, z, q⟩ := r
              obtain ⟨p, hp⟩ := key_of_isSome hk.1
              have ei := key_kV hi hp
              subst ei
              have hlen := paired_len q
              refine .inr ⟨a, _, rfl, DPut.k h1 (by rw [hlen]; exact Nat.lt_of_lt_of_le hk.2 (by decide)), ?_⟩
              obtain ⟨ok5, g5⟩ := ok4.updO (o := .dK (putK ks p v)) (b := .dic (dput kvs k d)) ha (fun q u e => by rw [h1] at e; cases e) fun kk => ⟨_, upd_same, by
                rw [paired_len (dput_put hp hv hi q)]
                exact Nat.le_trans (dput_len _ _ _) (size_ok hk.2), paired_map (fun _ _ h => h.kp kk) (dput_put hp hv hi q)⟩
              exact p3 al _ fz4 σ (.of (g4.trans g5)) ok5 (eo4.kp ok4 g5)
            · cases hs
          | dit l kvs =>
            cases l with
            | true => cases hs
            | false =>
              dsimp only at hs
              split at hs
              · rename_i hk
                cases hs
                obtain ⟨ks, h1, z, q⟩ := r
                obtain ⟨ds, p, rfl, hp, hpn⟩ := keyT_of hk.1
                obtain ⟨c, rfl, hc, hcz, hkv⟩ := key_tup hi hp hpn
                have hlen := paired_len q
                refine .inr ⟨a, _, rfl, DPut.t h1 hc (by rw [hlen]; exact Nat.lt_of_lt_of_le hk.2 (by decide)), ?_⟩
                obtain ⟨ok5, g5⟩ := ok4.updO (o := .dT (putK ks p v)) (b := .dit false (dput kvs (.tuple ds) d)) ha (fun q u e => by rw [h1] at e; cases e) fun kk => ⟨_, upd_same, by
                  rw [paired_len (dput_putT hp hcz hv hkv q)]
                  exact Nat.le_trans (dput_len _ _ _) (size_ok hk.2), paired_map (fun _ _ h => h.kp kk) (dput_putT hp hcz hv hkv q)⟩
                exact p3 al _ fz4 σ (.of (g4.trans g5)) ok5 (eo4.kp ok4 g5)
              · cases hs
    · cases hs
  · exact p3.elim
end
end Ev

/-! Ev12: several names at once, raise, try -/
namespace Ev
open PySem PySem.Spec PyProof.Rows L2
def setV : List Nat → List V → L2.St → L2.St
  | i :: is, v :: vs, σ => setV is vs (σ.set i (some v))
  | _, _, σ => σ
section
variable {K : PySem.W.Frag} {H H0 : Hp} {fz fz0 : Addr → Prop}
theorem rr_ext {al ex : List Addr} : ∀ {vs : List V} {rs : List R}, (∀ a ∈ ex, a ∉ frA vs rs) → Paired (RR K al fz H) vs rs → Paired (RR K (al ++ ex) fz H) vs rs
  | _, _, _, .nil => .nil
  | v :: vs, r :: rs, n, .cons h t => by
    refine .cons ?_ (rr_ext (fun a m z => n a m ?_) t)
    · cases r with
      | d x => exact h
      | o i =>
        obtain ⟨a, e, ha⟩ := h
        refine ⟨a, e, ?_⟩
        rw [List.getElem?_append_left (List.getElem?_eq_some_iff.mp ha).1]
        exact ha
      | f b =>
        obtain ⟨a, rfl, q, n1, nf⟩ := h
        refine ⟨a, rfl, q, fun m => ?_, nf⟩
        rcases List.mem_append.mp m with m | m
        · exact n1 m
        · exact n a m List.mem_cons_self
    · by_cases c : ∃ a b, v = .ref a ∧ r = .f b
      · obtain ⟨a', b, rfl, rfl⟩ := c
        exact List.mem_cons_of_mem _ z
      · rw [frA_other fun a b h1 h2 => c ⟨a, b, h1, h2⟩]
        exact z
theorem parSet_ok : ∀ {is : List Nat} {vs : List V} {rs : List R} {al : List Addr} {st st' : List Ob} {σ : L2.St} {env env' : Envr}, Go al fz0 H0 fz H → Ok K al fz st H → Ars K al fz H0 H vs rs → EnvO K al fz H σ env → parSet is rs env st = some (env', st') →
    vs.length = is.length ∧ ∃ al', GoX al fz0 H0 al' fz H ∧ Ok K al' fz st' H ∧ EnvO K al' fz H (setV is vs σ) env'
  | [], vs, rs, al, st, st', σ, env, env', g, ok, t, eo, e => by
    have hrr := t.rr
    cases hrr with
    | nil =>
      cases e
      exact ⟨rfl, al, .of g, ok, eo⟩
    | cons _ _ => cases e
  | i :: is, vs, rs, al, st, st', σ, env, env', g, ok, t, eo, e => by
    have hrr := t.rr
    cases hrr with
    | nil => cases e
    | @cons v r vs rs h hr =>
      have e : parSet is rs (env.set i (some (alloc r st).1)) (alloc r st).2 = some (env', st') := e
      have fr : Fresh H0 v r := fun b a e1 e2 => by
        subst e1 e2
        exact t.fr a List.mem_cons_self
      obtain ⟨al', gx, ok2, rr2, nf, ex, rfl, hex⟩ := alloc_go ok g h fr
      have t2 := t.tail
      have dj : ∀ a ∈ ex, a ∉ frA vs rs := fun a m z => by
        obtain ⟨b, rfl, rfl⟩ := hex a m
        exact (List.nodup_cons.mp t.nd).1 z
      have t3 : Ars K (al ++ ex) fz H0 H vs rs := ⟨rr_ext dj t2.rr, t2.fr, t2.nd⟩
      have gg : Go (al ++ ex) fz0 H0 fz H := ⟨fun a o h n => g.keep a o h fun m => n (List.mem_append_left _ m), g.there, g.sub, g.new, g.lk⟩
      obtain ⟨hl, al'', gx2, ok3, eo3⟩ := parSet_ok gg ok2 t3 ((eo.ext).set rr2 nf) e
      refine ⟨congrArg Nat.succ hl, al'', ?_, ok3, eo3⟩
      obtain ⟨⟨ex1, h1, h2⟩, _⟩ := gx
      obtain ⟨⟨ex2, h3, h4⟩, _⟩ := gx2
      have : ex1 = ex := (List.append_cancel_left h1).symm
      subst this
      refine ⟨⟨ex1 ++ ex2, by rw [h3]; simp, fun a m => ?_⟩, g⟩
      rcases List.mem_append.mp m with m | m
      · exact h2 a m
      · exact h4 a m
end
section
variable {X : Cx} {cl : Nat → Value} {Φ : Calls} {W : WX} {a b c : Expr} {ea eb ec : E} {pos : Pos} {es : List Expr} {ees : Es}
theorem par_v {is : List Nat} {D : Ends} {σ : L2.St} {H : Hp} (h : tS X.K cl Φ W (.par is ees) D σ H) :
    tAll X.K cl Φ W ees σ H fun vs H1 => vs.length = is.length ∧ D.nx (setV is vs σ) H1 ∧ ∀ p, H1 p = none → D.nx (setV is vs σ) (upd H1 p (.tup vs)) := by
  obtain ⟨al, fz, st, env, ok, eo, h⟩ := h
  unfold exS at h
  refine s_all ⟨al, fz, st, env, ok, eo, (DnF.fl ok eo h).mono fun rs st1 d vs H1 fz1 g ok1 t => ?_⟩
  split at d
  · rename_i env' st' e
    obtain ⟨hl, al', gx, ok2, eo2⟩ := parSet_ok g ok1 t (eo.kp ok g) e
    refine ⟨hl, d al' H1 fz1 _ gx ok2 eo2, fun p n => ?_⟩
    exact d al' _ fz1 _ (gx.trans (.of (go_new n))) (ok2.new n) (eo2.kp ok2 (go_new n))
  · exact d.elim
theorem gNs_set {Q : L2.St → Hp → Prop} {H : Hp} : ∀ {is : List Nat} {xs : List V} {σ : L2.St}, xs.length = is.length → Q (setV is xs σ) H → gNs is xs σ H Q
  | [], [], σ, _, q => ⟨rfl, q⟩
  | i :: is, x :: xs, σ, hl, q => ⟨x, xs, rfl, gNs_set (by simpa using hl) q⟩
/-- not swapped: through a tuple -/
theorem s_parT {is : List Nat} {ts : List Expr} {kt k2 : Nat} {pt p2 : Pos} (ha : PA X es (tAll X.K cl Φ W ees)) (hl : ees.len ≤ 1000) (hg : PG X (.Tuple ts kt pt) (gTup X.K is.length (gNs is)))
    (hs : swapsWithSole [.Tuple ts kt pt] (.Tuple es k2 p2) pos.line X.env = pure false) (hw : swappedStores [.Tuple ts kt pt] (.Tuple es k2 p2) X.env = pure none) (h1 : (assignEach [.Tuple ts kt pt] X.env).map (·.2) = [assign (.Tuple ts kt pt) X.env]) :
    PS X (.Assign [.Tuple ts kt pt] (.Tuple es k2 p2) pos) (tS X.K cl Φ W (.par is ees)) := (ps_asg (pe_tup ha) hg hs hw h1).imp fun D σ H h => (par_v h).imp fun vs H1 hv ⟨h1, h2, h3⟩ => by
  refine ⟨by rw [hv]; exact size_ok (by omega), fun p n => ?_⟩
  exact ⟨p, vs, rfl, .inl (.inl upd_same), h1, gNs_set h1 (h3 p n)⟩
theorem s_par2 {i j : Nat} {x y : Str} {px py pt p2 : Pos} {kt k2 : Nat} (hc : X.calm = true) (hN : X.N.Nodup) (hi : X.N[i]? = some x) (hj : X.N[j]? = some y) (hij : i ≠ j) (hx : X.env.scope.names.lookup x = some .local) (hy : X.env.scope.names.lookup y = some .local)
    (ha : PA X [a, b] (tAll X.K cl Φ W ees)) (hw : swappedStores [.Tuple [.Name x px, .Name y py] kt pt] (.Tuple [a, b] k2 p2) X.env = pure (some [x, y])) (hs : swapsWithSole [.Tuple [.Name x px, .Name y py] kt pt] (.Tuple [a, b] k2 p2) pos.line X.env = pure false) :
    PS X (.Assign [.Tuple [.Name x px, .Name y py] kt pt] (.Tuple [a, b] k2 p2) pos) (tS X.K cl Φ W (.par [i, j] ees)) := (ps_par hc hN hi hj hij hx hy ha hw hs).imp fun D σ H h => (par_v h).imp fun vs H1 hv ⟨h1, h2, h3⟩ => by
  match vs, h1 with
  | [v, w], _ => exact ⟨v, w, rfl, h2⟩
theorem s_par3 {i j k : Nat} {x y z : Str} {px py pz pt p2 : Pos} {kt k2 : Nat} (hc : X.calm = true) (hN : X.N.Nodup) (hi : X.N[i]? = some x) (hj : X.N[j]? = some y) (hk : X.N[k]? = some z) (hij : i ≠ j) (hik : i ≠ k) (hjk : j ≠ k)
    (hx : X.env.scope.names.lookup x = some .local) (hy : X.env.scope.names.lookup y = some .local) (hz : X.env.scope.names.lookup z = some .local)
    (ha : PA X [a, b, c] (tAll X.K cl Φ W ees)) (hw : swappedStores [.Tuple [.Name x px, .Name y py, .Name z pz] kt pt] (.Tuple [a, b, c] k2 p2) X.env = pure (some [x, y, z]))
    (hs : swapsWithSole [.Tuple [.Name x px, .Name y py, .Name z pz] kt pt] (.Tuple [a, b, c] k2 p2) pos.line X.env = pure false) :
    PS X (.Assign [.Tuple [.Name x px, .Name y py, .Name z pz] kt pt] (.Tuple [a, b, c] k2 p2) pos) (tS X.K cl Φ W (.par [i, j, k] ees)) := by
  refine ⟨fun pins s σ H D I h => ?_⟩
  have h := par_v h
  rw [exec_Assign_arm]
  refine wpAny_bind (wpAny_standAt ?_)
  rw [hs]
  refine wpAny_bind (wpAny_pure ?_)
  rw [if_neg (by decide)]
  refine wpAny_bind (Tuple_ (thn (ha.run _ pins s σ H _ I h) fun us s1 ⟨vs, H1, I1, r1, q1⟩ => ?_))
  obtain ⟨hl, q1, _⟩ := q1
  obtain ⟨v, w, t, rfl⟩ : ∃ v w t, vs = [v, w, t] := by
    match vs, hl with
    | [v, w, t], _ => exact ⟨v, w, t, rfl⟩
  obtain ⟨u1, u2, u3, rfl, rv, rw', rt⟩ : ∃ u1 u2 u3, us = [u1, u2, u3] ∧ L2.RelV v u1 ∧ L2.RelV w u2 ∧ L2.RelV t u3 := by
    cases r1 with
    | cons p q =>
      cases q with
      | cons p' q' =>
        cases q' with
        | cons p'' q'' =>
          cases q''
          exact ⟨_, _, _, rfl, p, p', p''⟩
  refine wpAny_newObj_type ?_ (by show 3 ≤ sizeLine; decide)
  have I2 : Inv X pins σ H1 { s1 with heap := s1.heap.push { cls := .type "tuple", data := .seq [u1, u2, u3].toArray } } := I1.kept (t' := s1.toks) fun b o e => Heap.get?_push_of_some _ e
  rw [hw]
  refine wpAny_bind (wpAny_pure ?_)
  show wpAny (model X.prog X.w) X.A (do rule "assign.swapped-stores"; let items ← unpackItems (.ref s1.heap.objs.size) 3 none; assignInOrder [fun v => bindName X.env z v, fun v => bindName X.env y v, fun v => bindName X.env x v] items.reverse; pure Flow.next) _ _ _
  refine wpAny_bind (wpAny_rule (wpAny_bind (unpackItems_tuple (items := #[u1, u2, u3]) (I.ok.hd hc) (IsTup.new s1.heap _) fun h' hx' => ?_)))
  have I3 := I2.kept (h' := h') (t' := s1.toks) fun b o e => hx' b o (Nat.ne_of_lt (Heap.lt_size e)) e
  show wpAny _ _ (assignInOrder [fun v => bindName X.env z v, fun v => bindName X.env y v, fun v => bindName X.env x v] [u3, u2, u1] >>= fun _ => pure Flow.next) _ _ _
  refine wpAny_bind (assignInOrder_cons (wpAny_bindName (store_ok I3 hN hk (.inl hz) rt (fun s2 I4 => ?_) (.inr hz))))
  refine assignInOrder_cons (wpAny_bindName (store_ok I4 hN hj (.inl hy) rw' (fun s3 I5 => ?_) (.inr hy)))
  refine assignInOrder_cons (wpAny_bindName (store_ok I5 hN hi (.inl hx) rv (fun s4 I6 => assignInOrder_nil (wpAny_pure ?_)) (.inr hx)))
  have e : ((σ.set k (some t)).set j (some w)).set i (some v) = setV [i, j, k] [v, w, t] σ := by
    show _ = ((σ.set i (some v)).set j (some w)).set k (some t)
    rw [List.set_comm _ _ (Ne.symm hij), List.set_comm _ _ (Ne.symm hik), List.set_comm _ _ (Ne.symm hjk)]
  rw [e] at I6
  exact ⟨_, H1, I6, q1⟩
theorem s_tupa {is : List Nat} {ts : List Expr} {kt : Nat} {pt : Pos} (he : PE X a (tE X.K cl Φ W ea)) (hg : PG X (.Tuple ts kt pt) (gTup X.K is.length (gNs is)))
    (hs : swapsWithSole [.Tuple ts kt pt] a pos.line X.env = pure false) (hw : swappedStores [.Tuple ts kt pt] a X.env = pure none) (h1 : (assignEach [.Tuple ts kt pt] X.env).map (·.2) = [assign (.Tuple ts kt pt) X.env]) :
    PS X (.Assign [.Tuple ts kt pt] a pos) (tS X.K cl Φ W (.tupa is ea)) := (ps_asg he hg hs hw h1).imp fun D σ H h => tup_v h
theorem s_sub {o i : Expr} {eo' ei : E} {p2 : Pos} (hu : X.A.units + 1 < cLine) (he : PE X a (tE X.K cl Φ W ea)) (ho : PE X o (tE X.K cl Φ W eo')) (hi : PE X i (tE X.K cl Φ W ei))
    (ha : ∀ v, assign (.Subscript o i p2) X.env v = (do
      let ov ← holding [v] (eval o X.env)
      let iv ← holding [v, ov] (eval i X.env)
      standAt p2
      holding [v, ov, iv] (setItem ov iv v)
      release [v, ov, iv] []))
    (hs : swapsWithSole [.Subscript o i p2] a pos.line X.env = pure false) (hw : swappedStores [.Subscript o i p2] a X.env = pure none) (h1 : (assignEach [.Subscript o i p2] X.env).map (·.2) = [assign (.Subscript o i p2) X.env]) :
    PS X (.Assign [.Subscript o i p2] a pos) (tS X.K cl Φ W (.sub eo' ei ea)) := (ps_asg he (pg_sub ho hi (set_E hu) ha) hs hw h1).imp fun D σ H h => sub_v h
/-! ### raise, try -/
theorem s_raise {C : Addr} {k : Nat} (hc : X.calm = true) (tk : Takes X W) (he : PMk X a (fun _ H Q => Q (.ref C) none H)) (hk : cl k = .ref C) : PS X (.Raise (some a) none pos) (tS X.K cl Φ W (.raise k)) := (ps_raise hc tk he).imp fun D σ H h => by
  obtain ⟨al, fz, st, env, ok, eo, h⟩ := h
  have := h al H fz σ GoX.refl ok eo
  rw [hk] at this
  exact this
def W0 : WX := fun _ _ _ _ => False
def hdL (K : PySem.W.Frag) (cl : Nat → Value) (Φ : Calls) : Hs → List (Value × (Addr → Value → Option Addr → TS))
  | .nil => []
  | .cons c _ su hs => (cl c, fun _ _ _ => tSs K cl Φ W0 su) :: hdL K cl Φ hs
/-- the classes that a clause takes -/
def HsOk (K : PySem.W.Frag) (cl : Nat → Value) (n : Nat) : Hs → Prop
  | .nil => True
  | .cons c cs _ hs => (∀ k, k < n → PySem.W.exmOne K (cl k) (cl c) = some (decide (k ∈ cs))) ∧ HsOk K cl n hs
theorem hds_v {n k : Nat} {D : Ends} {env : Envr} {st : List Ob} (hk : k < n) : ∀ {hs : Hs} {al : List Addr} {fz : Addr → Prop} {H : Hp} {σ : L2.St}, HsOk X.K cl n hs → Ok X.K al fz st H → EnvO X.K al fz H σ env → DnF X.K al fz H W cl (exHs Φ hs k env st) D → wMany X.K W D (hdL X.K cl Φ hs) (cl k) none σ H
  | .nil, al, fz, H, σ, hx, ok, eo, h => h al H fz σ GoX.refl ok eo
  | .cons c cs su hs, al, fz, H, σ, hx, ok, eo, h => by
    refine ⟨_, hx.1 k hk, fun e a n => ?_, fun e => ?_⟩
    · unfold exHs at h
      rw [if_pos (of_decide_eq_true e)] at h
      refine ⟨al, fz, st, env, ok, eo, ?_⟩
      cases e2 : exSs Φ su env st with
      | exc _ _ _ => rw [e2] at h; exact h.elim
      | next env' st' => rw [e2] at h; exact h
      | brk env' st' => rw [e2] at h; exact h
      | cont env' st' => rw [e2] at h; exact h
      | ret r st' => rw [e2] at h; exact h
      | err => rw [e2] at h; exact h
    · unfold exHs at h
      rw [if_neg (of_decide_eq_false e)] at h
      exact hds_v hk hx.2 ok eo h
theorem s_try {n : Nat} {body : List Stmt} {h₀ : ExceptHandler} {hds : List ExceptHandler} {ebody : Ss} {ehs : Hs} (hs : X.stack = X.env :: X.outer) (hf : X.env.frame = some X.env.locals) (tk : Takes X W)
    (hb : ∀ (W : WX) (pn : List (Addr × Obj)) (xe : Value → Shared → Prop), Takes (X.tr pn xe) W → PassesOwn (model X.prog X.w) X.A X.env xe → PSs (X.tr pn xe) body (tSs X.K cl Φ W ebody))
    (hh : HdsOk X (h₀ :: hds) (hdL X.K cl Φ ehs)) (hx : HsOk X.K cl n ehs) : PS X (.Try body (h₀ :: hds) [] [] pos) (tS X.K cl Φ W (.try n ebody ehs)) := (ps_try_many (tb := fun W => tSs X.K cl Φ W ebody) hs hf tk hb hh).imp fun D σ H h => by
  obtain ⟨al, fz, st, env, ok, eo, h⟩ := h
  refine ⟨al, fz, st, env, ok, eo, ?_⟩
  unfold exS at h
  cases e : exSs Φ ebody env st with
  | next env' st' => rw [e] at h; exact h
  | brk env' st' => rw [e] at h; exact h
  | cont env' st' => rw [e] at h; exact h
  | ret r st' => rw [e] at h; exact h
  | err => rw [e] at h; exact h
  | exc k env' st' =>
    rw [e] at h
    have h : DnF X.K al fz H W cl (if k < n then exHs Φ ehs k env' st' else .err) D := h
    by_cases c : k < n
    · rw [if_pos c] at h
      exact fun al' H' fz' σ' g ok' eo' => hds_v c hx ok' eo' (h.from g)
    · rw [if_neg c] at h
      exact h.elim
end
end Ev

/-! Ev13: what loops walk -/
namespace Ev
open PySem PySem.Spec PyProof.Rows L2 RZ
/-- the heap goes on, and the lists at N may change too -/
structure GoS (N : Addr → Prop) (al : List Addr) (fz : Addr → Prop) (H : Hp) (al' : List Addr) (fz' : Addr → Prop) (H' : Hp) : Prop where
  ext : ∃ ex, al' = al ++ ex ∧ ∀ a ∈ ex, H a = none
  keep : ∀ a o, H a = some o → a ∉ al → ¬ N a → H' a = some o
  there : ∀ a, H a ≠ none → H' a ≠ none
  sub : ∀ a, fz a → fz' a
  new : ∀ a, fz' a → fz a ∨ H a = none
  lk : ∀ a o u, H a = some (.frz o u) → ¬ N a → H' a = some (.frz o u)
theorem GoX.side {N : Addr → Prop} {al al' : List Addr} {fz fz' : Addr → Prop} {H H' : Hp} (g : GoX al fz H al' fz' H') : GoS N al fz H al' fz' H' := ⟨g.ext, fun a o h n _ => g.go.keep a o h n, g.go.there, g.go.sub, g.go.new, fun a o u h _ => g.go.lk a o u h⟩
def NOk (N : Addr → Prop) (al : List Addr) (fz : Addr → Prop) (H : Hp) : Prop := ∀ a, N a → a ∉ al ∧ ¬ fz a ∧ ∃ acc, H a = some (.lst acc)
theorem NOk.go {N : Addr → Prop} {al : List Addr} {fz fz' : Addr → Prop} {H H' : Hp} (h : NOk N al fz H) (g : Go al fz H fz' H') : NOk N al fz' H' := fun a n => by
  obtain ⟨h1, h2, acc, h3⟩ := h a n
  refine ⟨h1, fun z => ?_, acc, g.keep _ _ h3 h1⟩
  rcases g.new a z with z | z
  · exact h2 z
  · rw [h3] at z
    cases z
theorem Ok.kpS {K : PySem.W.Frag} {N : Addr → Prop} {al al' : List Addr} {fz fz' : Addr → Prop} {H H' : Hp} {st : List Ob} (ok : Ok K al fz st H) (hN : NOk N al fz H) (g : GoS N al fz H al' fz' H') : Kp H fz H' fz' := by
  refine ⟨fun a xs h => g.keep a _ h (fun m => ?_) fun n => ?_, g.sub, fun a xs h1 h2 => Rd.of_eq h2 fun o e => g.keep a o e (fun m => ok.dis a m h1) fun n => (hN a n).2.1 h1, fun a o xs h => g.lk a o _ h fun n => by
    obtain ⟨_, _, acc, e⟩ := hN a n
    rw [e] at h
    cases h⟩
  · obtain ⟨i, hi, e⟩ := List.mem_iff_getElem.mp m
    obtain ⟨b, _, r⟩ := paired_at' ok.obs (List.getElem?_eq_getElem hi)
    rw [e] at r
    exact r.notup h
  · obtain ⟨_, _, acc, e⟩ := hN a n
    rw [e] at h
    cases h
/-- a walk gives the items xs, while the object g is as it was -/
def Wk (K : PySem.W.Frag) (N : Addr → Prop) (al : List Addr) (fz : Addr → Prop) (H : Hp) (st : List Ob) (J : L2.It) (xs : List D) (g : Option Nat) : Prop :=
  xs.length ≤ sizeLine ∧ ∃ (G : Hp → Prop) (Y : Nat → Hp → V → Hp → Prop), Walk J xs.length G Y ∧
    ∀ al2 st2 H2 fz2, GoS N al fz H al2 fz2 H2 → Ok K al2 fz2 st2 H2 → same g st st2 → G H2 ∧ ∀ (i : Nat) d x H3, xs[i]? = some d → Y i H2 x H3 → ∃ fz3, Go al2 fz2 H2 fz3 H3 ∧ Ok K al2 fz3 st2 H3 ∧ Rp K H3 fz3 x d
def PostI (K : PySem.W.Frag) (al : List Addr) (fz : Addr → Prop) (H : Hp) (p : List D × Option Nat) (st' : List Ob) (R : L2.It → Hp → Prop) : Prop :=
  ∀ H' fz' J, Go al fz H fz' H' → Ok K al fz' st' H' → (∀ N, NOk N al fz H → Wk K N al fz' H' st' J p.1 p.2) → R J H'
def tI (K : PySem.W.Frag) (cl : Nat → Value) (Φ : Calls) (W : WX) (it : It) : TI := fun σ H R => ∃ al fz st env, Ok K al fz st H ∧ EnvO K al fz H σ env ∧ Dn K al fz H (WE W σ) cl (evI Φ it env st) fun p st' => PostI K al fz H p st' R
theorem _root_.L2.PI.imp {X : Cx} {tg e : Expr} {t t' : TI} (h : PI X tg e t) (q : ∀ σ H Q, t' σ H Q → t σ H Q) : PI X tg e t' := ⟨fun pins s σ H Q I z => h.run pins s σ H Q I (q σ H Q z)⟩
section
variable {K : PySem.W.Frag} {N : Addr → Prop} {al : List Addr} {fz : Addr → Prop} {H : Hp} {st : List Ob} {a b : Addr} {n : Nat}
/-- whatever list stands at a -/
theorem walk_listN : Walk (Itl K a) n (fun H => ∃ ys, SqL K H a ys ∧ ys.length = n) (fun i H x H' => H' = H ∧ ∀ ys, SqL K H a ys → ys[i]? = some x) :=
  ⟨fun i _ hi ⟨ys, q, e⟩ => ⟨ys, ys[i]'(by omega), q, by simp [e, hi]⟩, fun _ ⟨ys, q, e⟩ => ⟨ys, q, by omega⟩, fun _ _ _ _ _ q y => y⟩
theorem walk_tupN : Walk (Itt K a) n (fun H => ∃ ys, SqT K H a ys ∧ ys.length = n) (fun i H x H' => H' = H ∧ ∀ ys, SqT K H a ys → ys[i]? = some x) :=
  ⟨fun i _ hi ⟨ys, q, e⟩ => ⟨ys, ys[i]'(by omega), q, by simp [e, hi]⟩, fun _ ⟨ys, q, e⟩ => ⟨ys, q, by omega⟩, fun _ _ _ _ _ q y => y⟩
theorem wk_list {xs : List D} {g : Option Nat} (hz : xs.length ≤ sizeLine)
    (h : ∀ al2 st2 H2 fz2, GoS N al fz H al2 fz2 H2 → Ok K al2 fz2 st2 H2 → same g st st2 → ∃ ys, SqL K H2 a ys ∧ Rps K H2 fz2 ys xs) : Wk K N al fz H st (Itl K a) xs g := by
  refine ⟨hz, _, _, walk_listN, fun al2 st2 H2 fz2 gx ok sm => ?_⟩
  obtain ⟨ys, q, r⟩ := h al2 st2 H2 fz2 gx ok sm
  refine ⟨⟨ys, q, r.len⟩, fun i d x H3 hd y => ?_⟩
  obtain ⟨rfl, y⟩ := y
  obtain ⟨v, hv, rv⟩ := r.at hd
  have := (y ys q).symm.trans hv
  cases this
  exact ⟨fz2, Go.refl, ok, rv⟩
theorem wk_tup {xs : List D} {g : Option Nat} (hz : xs.length ≤ sizeLine)
    (h : ∀ al2 st2 H2 fz2, GoS N al fz H al2 fz2 H2 → Ok K al2 fz2 st2 H2 → same g st st2 → ∃ ys, SqT K H2 a ys ∧ Rps K H2 fz2 ys xs) : Wk K N al fz H st (Itt K a) xs g := by
  refine ⟨hz, _, _, walk_tupN, fun al2 st2 H2 fz2 gx ok sm => ?_⟩
  obtain ⟨ys, q, r⟩ := h al2 st2 H2 fz2 gx ok sm
  refine ⟨⟨ys, q, r.len⟩, fun i d x H3 hd y => ?_⟩
  obtain ⟨rfl, y⟩ := y
  obtain ⟨v, hv, rv⟩ := r.at hd
  have := (y ys q).symm.trans hv
  cases this
  exact ⟨fz2, Go.refl, ok, rv⟩
theorem sqL_kp {H H' : Hp} {fz fz' : Addr → Prop} {xs : List V} {ds : List D} (k : Kp H fz H' fz') {d : D} (h : Rp K H fz (.ref a) (.list ds)) : ∃ ys, SqL K H' a ys ∧ Rps K H' fz' ys ds := by
  cases h with
  | lst h1 h2 h3 => exact ⟨_, (h1.kp k).sq, h3.kp k⟩
theorem SqL.keep {H H' : Hp} {al' : List Addr} {fz' : Addr → Prop} {xs : List V} (g : GoS N al fz H al' fz' H') (n : a ∉ al) (nN : ¬ N a) (h : SqL K H a xs) : SqL K H' a xs := by
  rcases h with (h | ⟨o, h⟩) | h
  · exact .inl (.inl (g.keep _ _ h n nN))
  · exact .inl (.inr ⟨o, g.keep _ _ h n nN⟩)
  · exact .inr h
theorem same_refl {g : Option Nat} : same g st st := fun _ _ => rfl
theorem same_trans {g : Option Nat} {s1 s2 : List Ob} (h : same g st s1) (h' : same g s1 s2) : same g st s2 := fun i e => (h' i e).trans (h i e)
theorem Ext.get {al al' ex : List Addr} {i : Nat} {a : Addr} (e : al' = al ++ ex) (h : al[i]? = some a) : al'[i]? = some a := by
  rw [e, List.getElem?_append_left (List.getElem?_eq_some_iff.mp h).1]
  exact h
/-- a value that holds a list: what stands there later -/
theorem lst_later {x : V} {r : R} {xs : List D} {g : Option Nat} {H0 : Hp} {fz0 : Addr → Prop} (ok : Ok K al fz st H) (h : RR K al fz H x r) (fr : Fresh H0 x r) (g0 : Go al fz0 H0 fz H)
    (hr : (r = .d (.list xs)) ∨ (r = .f (.lst xs)) ∨ ∃ i, r = .o i ∧ st[i]? = some (.lst xs) ∧ g = some i) :
    ∃ a ys, x = .ref a ∧ SqL K H a ys ∧ xs.length ≤ sizeLine ∧ ∀ N, NOk N al fz0 H0 → ∀ al2 st2 H2 fz2, GoS N al fz H al2 fz2 H2 → Ok K al2 fz2 st2 H2 → same g st st2 → ∃ ys, SqL K H2 a ys ∧ Rps K H2 fz2 ys xs := by
  rcases hr with rfl | rfl | ⟨i, rfl, hi, rfl⟩
  · have h : Rp K H fz x (.list xs) := h
    cases h with
    | lst h1 h2 h3 => exact ⟨_, _, rfl, h1.sq, by rw [← h3.len]; exact h2, fun N hN al2 st2 H2 fz2 gx ok2 _ => ⟨_, (h1.kp (ok.kpS (hN.go g0) gx)).sq, h3.kp (ok.kpS (hN.go g0) gx)⟩⟩
  · obtain ⟨a, rfl, ⟨ys, h1, h2, h3⟩, n, nf⟩ := h
    exact ⟨a, ys, rfl, sq_new h1, by rw [← h3.len]; exact h2, fun N hN al2 st2 H2 fz2 gx ok2 _ => ⟨ys, SqL.keep gx n (fun z => by
      obtain ⟨_, _, acc, e⟩ := hN a z
      rw [fr _ a rfl rfl] at e
      cases e) (sq_new h1), h3.kp (ok.kpS (hN.go g0) gx)⟩⟩
  · obtain ⟨a, rfl, ha⟩ := h
    obtain ⟨b, hb, r⟩ := ok.get ha
    rw [hi] at hb
    cases hb
    obtain ⟨ys, h1, h2, h3⟩ := r
    refine ⟨a, ys, rfl, sq_new h1, by rw [← h3.len]; exact h2, fun N hN al2 st2 H2 fz2 gx ok2 sm => ?_⟩
    obtain ⟨⟨ex, e, _⟩, _⟩ := gx
    obtain ⟨b, hb, r⟩ := ok2.get (Ext.get e ha)
    rw [sm i rfl, hi] at hb
    cases hb
    obtain ⟨ys, h1, h2, h3⟩ := r
    exact ⟨ys, sq_new h1, h3⟩
end
section
variable {X : Cx} {cl : Nat → Value} {Φ : Calls} {W : WX} {a b c tg : Expr} {ea eb ec : E} {pos : Pos}
/-- list, tuple or text -/
def iAny (K : PySem.W.Frag) (tl : TE) : TI := fun σ H R => tl σ H fun x H1 => (∃ a, x = .ref a ∧ (∃ xs, SqL K H1 a xs) ∧ R (Itl K a) H1) ∨ (∃ a, x = .ref a ∧ (∃ xs, SqT K H1 a xs) ∧ R (Itt K a) H1) ∨ (∃ z : Str, x = .str z ∧ R (Its z) H1)
theorem pi_any {l : Expr} {tl : TE} (hl : PE X l tl) : PI X tg l (iAny X.K tl) := by
  refine ⟨fun pins s σ H R I h => ?_⟩
  refine thn (hl.run pins s σ H _ I h) fun v s1 ⟨x, H1, I1, r1, q1⟩ => ?_
  have one : ∀ b, b ∈ [s1.heap.objs.size] → FpOk X pins H1 b := fun b hb => by
    have e : b = s1.heap.objs.size := by simpa using hb
    subst e
    exact I1.fpOk (Nat.le_refl _) (I1.hok.fresh (Nat.le_refl _))
  rcases q1 with ⟨a, rfl, ⟨xs, hq⟩, q⟩ | ⟨a, rfl, ⟨xs, hq⟩, q⟩ | ⟨z, rfl, q⟩
  · cases r1
    obtain ⟨its, rv, p, hz⟩ := I1.list hq
    refine wpAny_pyIter_list p.isList ?_
    exact ⟨s1.heap.objs.size, [s1.heap.objs.size], _, _, H1, rfl, I1.kept (t' := s1.toks) fun b o e => Heap.get?_push_of_some _ e, turn_list a _, ⟨_, Heap.get?_push_size _ rfl, rfl, rfl⟩, one, q⟩
  · cases r1
    obtain ⟨its, rv, p, hz⟩ := I1.tuple hq
    refine wpAny_pyIter_tuple (show s1.heap.IsTuple a its.toArray from p) ?_
    exact ⟨s1.heap.objs.size, [s1.heap.objs.size], _, _, H1, rfl, I1.kept (t' := s1.toks) fun b o e => Heap.get?_push_of_some _ e, turn_tuple a _, ⟨_, Heap.get?_push_size _ rfl, rfl, rfl⟩, one, q⟩
  · obtain ⟨t, rfl⟩ := r1
    cases ha : z.cps.all (· < 128)
    · exact wpAny_pyIter_wide ha (pi_one (tk := s1.toks) I1 _ (turn_str _ z t "str_iterator" (.inr rfl)) ⟨_, Heap.get?_push_size _ rfl, rfl, rfl⟩ q)
    · exact wpAny_pyIter_ascii ha (pi_one (tk := s1.toks) I1 _ (turn_str _ z t "str_ascii_iterator" (.inl rfl)) ⟨_, Heap.get?_push_size _ rfl, rfl, rfl⟩ q)
theorem wk_str {K : PySem.W.Frag} {N : Addr → Prop} {al : List Addr} {fz : Addr → Prop} {H : Hp} {st : List Ob} {z : Str} (hz : okS z = true) : Wk K N al fz H st (Its z) (signs z) none := by
  have hl : (signs z).length = z.cps.size := by simp [signs]
  have h1 := okS_len hz
  refine ⟨by rw [hl]; exact size_ok (Nat.le_trans h1 (by decide)), _, _, by rw [hl]; exact walk_str, fun al2 st2 H2 fz2 gx ok sm => ⟨trivial, fun i d x H3 hd y => ?_⟩⟩
  obtain ⟨rfl, c, hc, rfl⟩ := y
  have hc' : z.cps.toList[i]? = some c := by simpa using hc
  have : d = .str ⟨#[c]⟩ := by
    unfold signs at hd
    rw [List.getElem?_map, hc'] at hd
    cases hd
    rfl
  subst this
  refine ⟨fz2, Go.refl, ok, .str _ (okS_of (fun e he => ?_) (by show 1 ≤ 1000; decide))⟩
  have : e = c := by simpa using he
  subst this
  exact okS_mem hz _ (List.mem_of_getElem? hc')
theorem iof_v {σ : L2.St} {H : Hp} {R : L2.It → Hp → Prop} (h : tI X.K cl Φ W (.of ea) σ H R) : iAny X.K (tE X.K cl Φ W ea) σ H R := by
  obtain ⟨al, fz, st, env, ok, eo, h⟩ := h
  unfold evI at h
  refine tE.mk ok eo (Dn.bind h) fun r st' v H1 fz1 p g ok1 eo1 rr fr => ?_
  have lst : ∀ {xs : List D} {gg : Option Nat}, ((r = .d (.list xs)) ∨ (r = .f (.lst xs)) ∨ ∃ i, r = .o i ∧ st'[i]? = some (.lst xs) ∧ gg = some i) → PostI X.K al fz H (xs, gg) st' R → (∃ a, v = .ref a ∧ (∃ xs, SqL X.K H1 a xs) ∧ R (Itl X.K a) H1) ∨ (∃ a, v = .ref a ∧ (∃ xs, SqT X.K H1 a xs) ∧ R (Itt X.K a) H1) ∨ (∃ z : Str, v = .str z ∧ R (Its z) H1) := fun hr q => by
    obtain ⟨a, ys, rfl, hs, hz, later⟩ := lst_later ok1 rr fr g hr
    exact .inl ⟨a, rfl, ⟨ys, hs⟩, q H1 fz1 _ g ok1 fun N hN => wk_list hz (later N hN)⟩
  split at p
  · obtain ⟨a, ys, rfl, h1, h2, h3⟩ := rp_tup rr
    exact .inr (.inl ⟨a, rfl, ⟨ys, .inl h1.rd⟩, (show PostI X.K al fz H (_, none) st' R from p) H1 fz1 _ g ok1 fun N hN => wk_tup (by rw [← h3.len]; exact h2) fun al2 st2 H2 fz2 gx ok2 _ => ⟨ys, .inl (h1.kp (ok1.kpS (hN.go g) gx)).rd, h3.kp (ok1.kpS (hN.go g) gx)⟩⟩)
  · exact lst (.inl rfl) p
  · obtain ⟨rfl, hz⟩ := rp_str rr
    exact .inr (.inr ⟨_, rfl, (show PostI X.K al fz H (_, none) st' R from p) H1 fz1 _ g ok1 fun N hN => wk_str hz⟩)
  · exact lst (.inr (.inl rfl)) p
  · split at p
    · rename_i i _ xs hi
      exact lst (.inr (.inr ⟨i, rfl, hi, rfl⟩)) p
    · exact p.elim
  · exact p.elim
theorem i_of (ha : PE X a (tE X.K cl Φ W ea)) : PI X tg a (tI X.K cl Φ W (.of ea)) := (pi_any ha).imp fun _ _ _ h => iof_v h
theorem wk_range {K : PySem.W.Frag} {N : Addr → Prop} {al : List Addr} {fz : Addr → Prop} {H : Hp} {st : List Ob} {lo : Int} {n : Nat} (hn : n ≤ sizeLine) : Wk K N al fz H st (Itr lo n) ((List.range n).map fun (k : Nat) => (PyData.int (lo + (k : Int)))) none := by
  have hl : ((List.range n).map fun (k : Nat) => (PyData.int (lo + (k : Int)))).length = n := by simp
  refine ⟨by rw [hl]; exact hn, _, _, by rw [hl]; exact walk_range, fun al2 st2 H2 fz2 gx ok sm => ⟨trivial, fun i d x H3 hd y => ?_⟩⟩
  obtain ⟨rfl, rfl⟩ := y
  rw [List.getElem?_map] at hd
  cases e : (List.range n)[i]? with
  | none =>
    rw [e] at hd
    cases hd
  | some k =>
    rw [e] at hd
    have hk : k = i := by
      have := List.getElem?_eq_some_iff.mp e
      obtain ⟨h1, h2⟩ := this
      simpa using h2.symm
    subst hk
    cases hd
    exact ⟨fz2, Go.refl, ok, .int _⟩
theorem rng1_v {σ : L2.St} {H : Hp} {R : L2.It → Hp → Prop} (h : tI X.K cl Φ W (.range1 ea) σ H R) : iRng1 (tCons (tE X.K cl Φ W ea) tNil) σ H R := by
  obtain ⟨al, fz, st, env, ok, eo, h⟩ := h
  unfold evI at h
  refine tE.mk ok eo (Dn.bind h) fun r st' v H1 fz1 p g ok1 eo1 rr fr => ?_
  split at p
  · rename_i n
    by_cases c : n < 1000000 ∧ -1000000 < n
    · rw [if_pos c] at p
      refine ⟨n, by rw [rp_int rr], by omega, by omega, (show PostI X.K al fz H (_, none) st' R from p) H1 fz1 _ g ok1 fun N hN => ?_⟩
      have := wk_range (K := X.K) (N := N) (al := al) (fz := fz1) (H := H1) (st := st') (lo := 0) (n := n.toNat) (size_ok (by omega))
      simpa using this
    · rw [if_neg c] at p
      exact p.elim
  · exact p.elim
theorem i_range1 {p : Pos} (hg : Gl X "range") (hm : X.mg "range" = none) (ha : PE X a (tE X.K cl Φ W ea)) (hs : starEach [a] X.env = [(false, eval a X.env)]) : PI X tg (.Call (.Name "range" p) [a] [] pos) (tI X.K cl Φ W (.range1 ea)) :=
  (pi_range1 hg hm (pa_cons ha pa_nil hs) hs).imp fun _ _ _ h => rng1_v h
theorem rng2_v {σ : L2.St} {H : Hp} {R : L2.It → Hp → Prop} (h : tI X.K cl Φ W (.range2 ea eb) σ H R) : iRng2 (tCons (tE X.K cl Φ W ea) (tCons (tE X.K cl Φ W eb) tNil)) σ H R := by
  obtain ⟨al, fz, st, env, ok, eo, h⟩ := h
  unfold evI at h
  refine tE.mk ok eo (Dn.bind h) fun r st' v H1 fz1 p g ok1 eo1 rr fr => ?_
  refine tE.mk ok1 eo1 ((Dn.bind p).from g) fun r2 st2 v2 H2 fz2 p2 g2 ok2 eo2 rr2 fr2 => ?_
  split at p2
  · rename_i m n
    by_cases c : n < 1000000 ∧ -1000000 < n ∧ m < 1000000 ∧ -1000000 < m
    · rw [if_pos c] at p2
      refine ⟨m, n, by rw [rp_int rr, rp_int rr2], ⟨by omega, by omega, by omega, by omega⟩, (show PostI X.K al fz H (_, none) st2 R from p2) H2 fz2 _ (g.trans g2) ok2 fun N hN => wk_range ?_⟩
      exact Nat.le_trans (show (n - m).toNat ≤ 2000000 by omega) (by decide)
    · rw [if_neg c] at p2
      exact p2.elim
  · exact p2.elim
theorem i_range2 {p : Pos} (hg : Gl X "range") (hm : X.mg "range" = none) (ha : PE X a (tE X.K cl Φ W ea)) (hb : PE X b (tE X.K cl Φ W eb)) (hs : starEach [a, b] X.env = [(false, eval a X.env), (false, eval b X.env)]) (hs2 : starEach [b] X.env = [(false, eval b X.env)]) : PI X tg (.Call (.Name "range" p) [a, b] [] pos) (tI X.K cl Φ W (.range2 ea eb)) :=
  (pi_range2 hg hm (pa_cons ha (pa_cons hb pa_nil hs2) (by rw [hs, hs2])) hs hs2).imp fun _ _ _ h => rng2_v h
/-! ### zip -/
def zipD (xs ys : List D) : List D := xs.zipWith (fun x y => .tuple [x, y]) ys
theorem zip_at {xs ys : List D} {i : Nat} {d : D} (h : (zipD xs ys)[i]? = some d) : ∃ x y, xs[i]? = some x ∧ ys[i]? = some y ∧ d = .tuple [x, y] := by
  unfold zipD at h
  rw [List.getElem?_zipWith] at h
  cases e1 : xs[i]? with
  | none =>
    rw [e1] at h
    cases h
  | some x =>
    cases e2 : ys[i]? with
    | none =>
      rw [e1, e2] at h
      cases h
    | some y =>
      rw [e1, e2] at h
      cases h
      exact ⟨x, y, rfl, rfl, rfl⟩
theorem zipOk_at {xs ys : List D} (h : zipOk xs ys = true) {i : Nat} {x y : D} (h1 : xs[i]? = some x) (h2 : ys[i]? = some y) : prOk x y = true := by
  have e : (xs.zipWith prOk ys)[i]? = some (prOk x y) := by rw [List.getElem?_zipWith, h1, h2]
  exact List.all_eq_true.mp h _ (List.mem_of_getElem? e)
theorem pair_ok {K : PySem.W.Frag} {al : List Addr} {fz : Addr → Prop} {H : Hp} {st : List Ob} {T : Addr} {x y : V} {d e : D} (ok : Ok K al fz st H) (hT : H T = none) (h1 : Rp K H fz x d) (h2 : Rp K H fz y e) (hn : prOk d e = true) :
    ∃ fz3, Go al fz H fz3 (upd H T (.tup [x, y])) ∧ Ok K al fz3 st (upd H T (.tup [x, y])) ∧ Rp K (upd H T (.tup [x, y])) fz3 (.ref T) (.tuple [d, e]) :=
  ⟨fz, go_new hT, ok.new hT, .tup (.inl ⟨by
    revert hn
    cases h1 : isPair2 d <;> cases h2 : isPair2 e <;> simp [subLike, prOk, h1, h2], upd_same⟩) (by show 2 ≤ sizeLine; decide) (.cons (h1.kp (ok.kp (go_new hT))) (.cons (h2.kp (ok.kp (go_new hT))) .nil))⟩
theorem wk_zip {K : PySem.W.Frag} {N : Addr → Prop} {al : List Addr} {fz : Addr → Prop} {H : Hp} {st : List Ob} {a b : Addr} {xs ys : List D} {g : Option Nat} (hz : xs.length ≤ sizeLine)
    (h1 : ∀ al2 st2 H2 fz2, GoS N al fz H al2 fz2 H2 → Ok K al2 fz2 st2 H2 → same g st st2 → ∃ zs, SqL K H2 a zs ∧ Rps K H2 fz2 zs xs)
    (h2 : ∀ al2 st2 H2 fz2, GoS N al fz H al2 fz2 H2 → Ok K al2 fz2 st2 H2 → same g st st2 → ∃ zs, SqL K H2 b zs ∧ Rps K H2 fz2 zs ys) (hg : zipOk xs ys = true) : Wk K N al fz H st (Itz K a b) (zipD xs ys) g := by
  have hl : (zipD xs ys).length = min xs.length ys.length := by simp [zipD]
  refine ⟨by rw [hl]; omega, fun H => ∃ us vs, SqL K H a us ∧ SqL K H b vs ∧ us.length = xs.length ∧ vs.length = ys.length, fun i H v H' => ∃ T x y, v = .ref T ∧ H T = none ∧ H' = upd H T (.tup [x, y]) ∧ (∀ xs, SqL K H a xs → xs[i]? = some x) ∧ ∀ ys, SqL K H b ys → ys[i]? = some y, ?_, ?_⟩
  · rw [hl]
    refine ⟨fun i H hi ⟨us, vs, q1, q2, e1, e2⟩ => ?_, fun H ⟨us, vs, q1, q2, e1, e2⟩ => ⟨us, vs, q1, q2, by omega⟩, fun _ _ _ _ _ _ y => y⟩
    have h1 : i < us.length := by omega
    have h2 : i < vs.length := by omega
    exact ⟨us, vs, us[i], vs[i], q1, q2, by simp [h1], by simp [h2]⟩
  · intro al2 st2 H2 fz2 gx ok sm
    obtain ⟨us, q1, r1⟩ := h1 al2 st2 H2 fz2 gx ok sm
    obtain ⟨vs, q2, r2⟩ := h2 al2 st2 H2 fz2 gx ok sm
    refine ⟨⟨us, vs, q1, q2, r1.len, r2.len⟩, fun i d x H3 hd y => ?_⟩
    obtain ⟨T, x, y, rfl, hT, rfl, e1, e2⟩ := y
    obtain ⟨dx, dy, f1, f2, rfl⟩ := zip_at hd
    obtain ⟨v1, g1, p1⟩ := r1.at f1
    obtain ⟨v2, g2, p2⟩ := r2.at f2
    have := (e1 us q1).symm.trans g1
    cases this
    have := (e2 vs q2).symm.trans g2
    cases this
    exact pair_ok ok hT p1 p2 (zipOk_at hg f1 f2)
theorem wk_zipT {K : PySem.W.Frag} {N : Addr → Prop} {al : List Addr} {fz : Addr → Prop} {H : Hp} {st : List Ob} {a b : Addr} {xs ys : List D} {g : Option Nat} (hz : xs.length ≤ sizeLine)
    (h1 : ∀ al2 st2 H2 fz2, GoS N al fz H al2 fz2 H2 → Ok K al2 fz2 st2 H2 → same g st st2 → ∃ zs, SqT K H2 a zs ∧ Rps K H2 fz2 zs xs)
    (h2 : ∀ al2 st2 H2 fz2, GoS N al fz H al2 fz2 H2 → Ok K al2 fz2 st2 H2 → same g st st2 → ∃ zs, SqT K H2 b zs ∧ Rps K H2 fz2 zs ys) (hg : zipOk xs ys = true) : Wk K N al fz H st (ItzT K a b) (zipD xs ys) g := by
  have hl : (zipD xs ys).length = min xs.length ys.length := by simp [zipD]
  refine ⟨by rw [hl]; omega, fun H => ∃ us vs, SqT K H a us ∧ SqT K H b vs ∧ us.length = xs.length ∧ vs.length = ys.length, fun i H v H' => ∃ T x y, v = .ref T ∧ H T = none ∧ H' = upd H T (.tup [x, y]) ∧ (∀ xs, SqT K H a xs → xs[i]? = some x) ∧ ∀ ys, SqT K H b ys → ys[i]? = some y, ?_, ?_⟩
  · rw [hl]
    refine ⟨fun i H hi ⟨us, vs, q1, q2, e1, e2⟩ => ?_, fun H ⟨us, vs, q1, q2, e1, e2⟩ => ⟨us, vs, q1, q2, by omega⟩, fun _ _ _ _ _ _ y => y⟩
    have h1 : i < us.length := by omega
    have h2 : i < vs.length := by omega
    exact ⟨us, vs, us[i], vs[i], q1, q2, by simp [h1], by simp [h2]⟩
  · intro al2 st2 H2 fz2 gx ok sm
    obtain ⟨us, q1, r1⟩ := h1 al2 st2 H2 fz2 gx ok sm
    obtain ⟨vs, q2, r2⟩ := h2 al2 st2 H2 fz2 gx ok sm
    refine ⟨⟨us, vs, q1, q2, r1.len, r2.len⟩, fun i d x H3 hd y => ?_⟩
    obtain ⟨T, x, y, rfl, hT, rfl, e1, e2⟩ := y
    obtain ⟨dx, dy, f1, f2, rfl⟩ := zip_at hd
    obtain ⟨v1, g1, p1⟩ := r1.at f1
    obtain ⟨v2, g2, p2⟩ := r2.at f2
    have := (e1 us q1).symm.trans g1
    cases this
    have := (e2 vs q2).symm.trans g2
    cases this
    exact pair_ok ok hT p1 p2 (zipOk_at hg f1 f2)
theorem zip_v {σ : L2.St} {H : Hp} {R : L2.It → Hp → Prop} (h : tI X.K cl Φ W (.zip ea eb) σ H R) : iZipA X.K (tCons (tE X.K cl Φ W ea) (tCons (tE X.K cl Φ W eb) tNil)) σ H R := by
  obtain ⟨al, fz, st, env, ok, eo, h⟩ := h
  unfold evI at h
  refine tE.mk ok eo (Dn.bind h) fun r st' v H1 fz1 p g ok1 eo1 rr fr => ?_
  refine tE.mk ok1 eo1 ((Dn.bind p).from g) fun r2 st2 v2 H2 fz2 p2 g2 ok2 eo2 rr2 fr2 => ?_
  replace rr := rr.kp ok1 g2
  have lst : ∀ {xs ys : List D} {gg : Option Nat}, ((r = .d (.list xs)) ∨ (r = .f (.lst xs)) ∨ ∃ i, r = .o i ∧ st2[i]? = some (.lst xs) ∧ gg = some i) → r2 = .f (.lst ys) → zipOk xs ys = true → PostI X.K al fz H (zipD xs ys, gg) st2 R →
      ∃ a b xs ys, [v, v2] = [V.ref a, V.ref b] ∧ ((SqL X.K H2 a xs ∧ SqL X.K H2 b ys ∧ R (Itz X.K a b) H2) ∨ (SqT X.K H2 a xs ∧ SqT X.K H2 b ys ∧ R (ItzT X.K a b) H2)) := fun {xs ys gg} hr hr2 hg q => by
    obtain ⟨a, us, rfl, hs, hz, later⟩ := lst_later ok2 rr fr (g.trans g2) hr
    obtain ⟨b, vs, rfl, hs2, hz2, later2⟩ := lst_later (g := gg) ok2 rr2 (fr2.back g) (g.trans g2) (.inr (.inl hr2))
    exact ⟨a, b, us, vs, rfl, .inl ⟨hs, hs2, q H2 fz2 _ (g.trans g2) ok2 fun N hN => wk_zip hz (later N hN) (later2 N hN) hg⟩⟩
  split at p2
  · rename_i xs ys
    have hg : zipOk xs ys = true := by
      by_cases c : zipOk xs ys = true
      · exact c
      · rw [if_neg c] at p2
        exact p2.elim
    rw [if_pos hg] at p2
    obtain ⟨a, us, rfl, h1, h2, h3⟩ := rp_tup rr
    obtain ⟨b, vs, rfl, k1, k2, k3⟩ := rp_tup rr2
    refine ⟨a, b, us, vs, rfl, .inr ⟨.inl h1.rd, .inl k1.rd, (show PostI X.K al fz H (zipD _ _, none) st2 R from p2) H2 fz2 _ (g.trans g2) ok2 fun N hN => wk_zipT (by rw [← h3.len]; exact h2) ?_ ?_ hg⟩⟩
    · exact fun al3 st3 H3 fz3 gx ok3 _ => ⟨us, .inl (h1.kp (ok2.kpS (hN.go (g.trans g2)) gx)).rd, h3.kp (ok2.kpS (hN.go (g.trans g2)) gx)⟩
    · exact fun al3 st3 H3 fz3 gx ok3 _ => ⟨vs, .inl (k1.kp (ok2.kpS (hN.go (g.trans g2)) gx)).rd, k3.kp (ok2.kpS (hN.go (g.trans g2)) gx)⟩
  · split at p2
    · split at p2
      · rename_i hi
        split at p2
        · rename_i hg
          exact lst (.inr (.inr ⟨_, rfl, hi, rfl⟩)) rfl hg p2
        · exact p2.elim
      · exact p2.elim
    · split at p2
      · rename_i hg
        exact lst (.inr (.inl rfl)) rfl hg p2
      · exact p2.elim
    · exact p2.elim
  · exact p2.elim
theorem i_zip {p tpos : Pos} {elts : List Expr} {kk : Nat} (hg : Gl X "zip") (hm : X.mg "zip" = none) (ha : PE X a (tE X.K cl Φ W ea)) (hb : PE X b (tE X.K cl Φ W eb)) (hs : starEach [a, b] X.env = (false, eval a X.env) :: starEach [b] X.env) (hs2 : starEach [b] X.env = (false, eval b X.env) :: starEach [] X.env) (hpl : (backTo pos (starEach [b] X.env)).any (·.1) = false) :
    PI X (.Tuple elts kk tpos) (.Call (.Name "zip" p) [a, b] [] pos) (tI X.K cl Φ W (.zip ea eb)) := (pi_zipA hg hm (pa_cons ha (pa_cons hb pa_nil hs2) hs) hs hpl).imp fun _ _ _ h => zip_v h
end
end Ev

/-! Ev14: for, while, comprehensions -/
namespace Ev
open PySem PySem.Spec PyProof.Rows L2 RZ
def gOf (K : PySem.W.Frag) : Tg → TG
  | .name i => gName i
  | .tup is => gTup K is.length (gNs is)
section
variable {K : PySem.W.Frag} {cl : Nat → Value} {Φ : Calls} {W : WX}
theorem bind_ok {al : List Addr} {fz : Addr → Prop} {H : Hp} {σ : L2.St} {env env' : Envr} {x : V} {d : D} {Q : L2.St → Hp → Prop} : ∀ {tg : Tg}, Rp K H fz x d → EnvO K al fz H σ env → bindT tg d env = some env' → (∀ σ', EnvO K al fz H σ' env' → Q σ' H) → gOf K tg x σ H Q
  | .name i, r, eo, e, q => by
    cases e
    exact q _ (eo.set (r := .d d) r fun _ e => by cases e)
  | .tup is, r, eo, e, q => by
    unfold bindT at e
    dsimp only at e
    split at e
    · rename_i ds
      by_cases c : ds.length = is.length
      · rw [if_pos c] at e
        cases e
        obtain ⟨a, xs, rfl, hH, z, q1⟩ := rp_tup r
        exact ⟨a, xs, rfl, .inl hH.rd, q1.len.trans c, gNs_all q1 (q1.len.trans c) eo q⟩
      · rw [if_neg c] at e
        cases e
    · cases e
/-- the slots that a target sets -/
def Tg.slots : Tg → List Nat
  | .name i => [i]
  | .tup is => is
theorem wipe_set {σ : L2.St} {i : Nat} {v : Option V} : ∀ {vs : List Nat}, i ∈ vs → wipe (σ.set i v) vs = wipe σ vs
  | w :: vs, h => by
    unfold wipe
    rcases List.mem_cons.mp h with rfl | h
    · by_cases c : i ∈ vs
      · rw [wipe_set c]
      · have : ∀ {vs : List Nat}, i ∉ vs → wipe (σ.set i v) vs = (wipe σ vs).set i v := by
          intro vs hn
          induction vs with
          | nil => rfl
          | cons u us ih =>
            unfold wipe
            rw [ih fun m => hn (List.mem_cons_of_mem _ m), List.set_comm _ _ (fun e => hn (by rw [e]; exact List.mem_cons_self))]
        rw [this c, List.set_set]
    · rw [wipe_set h]
theorem wipe_wipe {σ : L2.St} : ∀ {us vs : List Nat}, (∀ i ∈ us, i ∈ vs) → wipe (wipe σ us) vs = wipe σ vs
  | [], vs, h => rfl
  | u :: us, vs, h => by
    show wipe ((wipe σ us).set u none) vs = wipe σ vs
    rw [wipe_set (h u List.mem_cons_self), wipe_wipe fun i m => h i (List.mem_cons_of_mem _ m)]
theorem wipe_gNs {H : Hp} {vs : List Nat} {Q : L2.St → Hp → Prop} : ∀ {is : List Nat} {xs : List V} {σ : L2.St}, (∀ i ∈ is, i ∈ vs) → gNs is xs σ H Q → gNs is xs σ H fun σ' H' => wipe σ' vs = wipe σ vs ∧ Q σ' H'
  | [], xs, σ, h, q => ⟨q.1, rfl, q.2⟩
  | i :: is, xs, σ, h, q => by
    obtain ⟨v, r, e, q⟩ := q
    refine ⟨v, r, e, ?_⟩
    have := wipe_gNs (fun j m => h j (List.mem_cons_of_mem _ m)) (show gNs is r (σ.set i (some v)) H Q from q)
    rw [wipe_set (h i List.mem_cons_self)] at this
    exact this
theorem wipe_gOf {H : Hp} {vs : List Nat} {Q : L2.St → Hp → Prop} {x : V} {σ : L2.St} : ∀ {tg : Tg}, (∀ i ∈ tg.slots, i ∈ vs) → gOf K tg x σ H Q → gOf K tg x σ H fun σ' H' => wipe σ' vs = wipe σ vs ∧ Q σ' H'
  | .name i, h, q => ⟨wipe_set (h i (by simp [Tg.slots])), q⟩
  | .tup is, h, q => by
    obtain ⟨a, xs, e, h1, h2, q⟩ := q
    exact ⟨a, xs, e, h1, h2, wipe_gNs h q⟩
end
section
variable {X : Cx} {cl : Nat → Value} {Φ : Calls} {W : WX} {a b c tgE iter elt : Expr} {ea eb ec : E} {pos : Pos} {tg : Tg}
theorem drop_at {α : Type} {xs : List α} {i : Nat} (h : i < xs.length) : xs.drop i = xs[i] :: xs.drop (i + 1) := by simp
theorem for_v {it : It} {body : Ss} {D : Ends} {σ : L2.St} {H : Hp} (h : tS X.K cl Φ W (.for tg it body) D σ H) : tFor (tI X.K cl Φ W it) (gOf X.K tg) (tSs X.K cl Φ W body) D σ H := by
  obtain ⟨al, fz, st, env, ok, eo, h⟩ := h
  unfold exS at h
  refine ⟨al, fz, st, env, ok, eo, (DnF.fl ok eo h).mono fun p st1 q H1 fz1 J g ok1 wk => ?_⟩
  obtain ⟨xs, gg⟩ := p
  obtain ⟨hz, G, Y, w, hy⟩ := wk (fun _ => False) (fun _ h => h.elim)
  refine for_it w (fun i σ2 H2 => ∃ al2 fz2 st2 env2, GoX al fz1 H1 al2 fz2 H2 ∧ Ok X.K al2 fz2 st2 H2 ∧ EnvO X.K al2 fz2 H2 σ2 env2 ∧ same gg st1 st2 ∧
    DnF X.K al2 fz2 H2 W cl (loopS (fun x env st => match bindT tg x env with | some env' => exSs Φ body env' st | none => .err) gg (xs.drop i) env2 st2) D) ?_ ?_ ?_ ?_
  · exact ⟨al, fz1, st1, env, GoX.refl, ok1, eo.kp ok g, same_refl, q.from (.of g)⟩
  · rintro i σ2 H2 hi ⟨al2, fz2, st2, env2, gx, ok2, eo2, sm, _⟩
    exact (hy al2 st2 H2 fz2 gx.side ok2 sm).1
  · rintro i x σ2 H2 H3 hi ⟨al2, fz2, st2, env2, gx, ok2, eo2, sm, hd⟩ y
    obtain ⟨fz3, g3, ok3, r3⟩ := (hy al2 st2 H2 fz2 gx.side ok2 sm).2 i xs[i] x H3 (List.getElem?_eq_getElem hi) y
    rw [drop_at hi] at hd
    unfold loopS at hd
    dsimp only at hd
    cases hb : bindT tg xs[i] env2 with
    | none =>
      rw [hb] at hd
      exact hd.elim
    | some env3 =>
      rw [hb] at hd
      dsimp only at hd
      refine bind_ok r3 (eo2.kp ok2 g3) hb fun σ3 eo3 => ⟨al2, fz3, st2, env3, ok3, eo3, ?_⟩
      have gx3 := gx.trans (.of g3)
      cases e : exSs Φ body env3 st2 with
      | next env' st' =>
        rw [e] at hd
        dsimp only at hd
        by_cases c : same gg st2 st'
        · rw [if_pos c] at hd
          exact fun al' H' fz' σ' gx' ok' eo' => ⟨al', fz', st', env', gx3.trans gx', ok', eo', same_trans sm c, (hd.from (.of g3)).from gx'⟩
        · rw [if_neg c] at hd
          exact hd.elim
      | cont env' st' =>
        rw [e] at hd
        dsimp only at hd
        by_cases c : same gg st2 st'
        · rw [if_pos c] at hd
          exact fun al' H' fz' σ' gx' ok' eo' => ⟨al', fz', st', env', gx3.trans gx', ok', eo', same_trans sm c, (hd.from (.of g3)).from gx'⟩
        · rw [if_neg c] at hd
          exact hd.elim
      | brk env' st' =>
        rw [e] at hd
        exact fun al' H' fz' σ' gx' ok' eo' => (hd.from (.of g3)) al' H' fz' σ' gx' ok' eo'
      | ret r st' =>
        rw [e] at hd
        exact (hd.from (.of g3))
      | exc k env' st' =>
        rw [e] at hd
        exact (hd.from (.of g3))
      | err =>
        rw [e] at hd
        exact hd.elim
  · rintro σ2 H2 ⟨al2, fz2, st2, env2, gx, ok2, eo2, sm, hd⟩
    rw [List.drop_length] at hd
    exact hd al2 H2 fz2 σ2 GoX.refl ok2 eo2
theorem s_for {it : It} {body : List Stmt} {ebody : Ss} (hp : PassesOwn (model X.prog X.w) X.A X.env X.xe) (hc : X.calm = true) (hi : PI X tgE iter (tI X.K cl Φ W it)) (hg : PG X tgE (gOf X.K tg)) (hb : PSs X body (tSs X.K cl Φ W ebody)) (hs : ∀ x, foldedSetIterable iter X.env x = pure x) :
    PS X (.For tgE iter body [] pos) (tS X.K cl Φ W (.for tg it ebody)) := (ps_for hp hc hi hg hb hs).imp fun _ _ _ h => for_v h
theorem while_v {body : Ss} {D : Ends} {σ : L2.St} {H : Hp} (h : tS X.K cl Φ W (.while ec body) D σ H) : tWhile (tT X.K cl Φ W ec) (tSs X.K cl Φ W body) D σ H := by
  obtain ⟨al, fz, st, env, ok, eo, h⟩ := h
  unfold exS at h
  refine ⟨fun m σ2 H2 => ∃ al2 fz2 st2 env2, Ok X.K al2 fz2 st2 H2 ∧ EnvO X.K al2 fz2 H2 σ2 env2 ∧ DnF X.K al2 fz2 H2 W cl (whileF (evE Φ ec) (exSs Φ body) m env2 st2) D, ⟨wfuel, al, fz, st, env, ok, eo, h⟩, ?_⟩
  rintro m σ2 H2 ⟨al2, fz2, st2, env2, ok2, eo2, hd⟩
  cases m with
  | zero => exact hd.elim
  | succ m =>
    unfold whileF at hd
    refine ⟨al2, fz2, st2, env2, ok2, eo2, ?_⟩
    cases e : evE Φ ec env2 st2 with
    | err =>
      rw [e] at hd
      exact hd.elim
    | exc k st' =>
      rw [e] at hd
      exact fun H' fz' g ok' => hd al2 H' fz' σ2 (.of g) ok' (eo2.kp ok2 g)
    | ok r st' =>
      rw [e] at hd
      show ∃ b, r = .d (.bool b) ∧ _
      split at hd
      · rename_i heq
        obtain ⟨rfl, rfl⟩ := ok_inj heq
        refine ⟨true, rfl, fun H' fz' g ok' => ?_⟩
        refine iteT ?_
        refine ⟨fun σ' H' => ∃ al2 fz2 st2 env2, Ok X.K al2 fz2 st2 H' ∧ EnvO X.K al2 fz2 H' σ' env2 ∧ DnF X.K al2 fz2 H' W cl (whileF (evE Φ ec) (exSs Φ body) m env2 st2) D, fun σ' H' q => ⟨m, Nat.lt_succ_self _, q⟩, ?_⟩
        refine ⟨al2, fz', _, env2, ok', eo2.kp ok2 g, ?_⟩
        have hd := hd.from (.of g)
        split at hd
        · rename_i e2
          rw [e2]
          exact fun al' H' fz' σ' gx' ok' eo' => ⟨al', fz', _, _, ok', eo', hd.from gx'⟩
        · rename_i e2
          rw [e2]
          exact fun al' H' fz' σ' gx' ok' eo' => ⟨al', fz', _, _, ok', eo', hd.from gx'⟩
        · rename_i e2
          rw [e2]
          exact hd
        · rename_i e2
          rw [e2]
          exact hd
        · rename_i e2
          rw [e2]
          exact hd
        · exact hd.elim
      · rename_i heq
        obtain ⟨rfl, rfl⟩ := ok_inj heq
        refine ⟨false, rfl, fun H' fz' g ok' => ?_⟩
        refine iteF ?_
        exact hd al2 H' fz' σ2 (.of g) ok' (eo2.kp ok2 g)
      · rename_i heq
        cases heq
      · exact hd.elim
theorem s_while {body : List Stmt} {ebody : Ss} (hp : PassesOwn (model X.prog X.w) X.A X.env X.xe) (hc : PT X c (tT X.K cl Φ W ec)) (hb : PSs X body (tSs X.K cl Φ W ebody)) : PS X (.While c body [] pos) (tS X.K cl Φ W (.while ec ebody)) := (ps_while hp hc hb).imp fun _ _ _ h => while_v h
/-! ### comprehensions -/
def tC0 (K : PySem.W.Frag) (cl : Nat → Value) (Φ : Calls) : Oe → TT
  | .no => tYes
  | .yes e => tT K cl Φ W0 e
theorem noX {α : Type} {K : PySem.W.Frag} {al : List Addr} {fz : Addr → Prop} {H : Hp} {XE : XK} {r : Rs α} {a : α} {st : List Ob} {P : α → List Ob → Prop} (e : r = .ok a st) (p : P a st) : Dn K al fz H XE cl r P := by
  rw [e]
  exact p
/-- a condition that is reckoned to b -/
theorem cond_v {K : PySem.W.Frag} {al : List Addr} {fz : Addr → Prop} {H : Hp} {σ : L2.St} {env : Envr} {st st' : List Ob} {oc : Oe} {b : Bool} {Q : Bool → Hp → Prop} (ok : Ok K al fz st H) (eo : EnvO K al fz H σ env) (h : evC Φ oc env st = .ok b st')
    (q : ∀ H' fz', Go al fz H fz' H' → Ok K al fz' st' H' → Q b H') : tC0 K cl Φ oc σ H Q := by
  cases oc with
  | no =>
    unfold evC at h
    obtain ⟨rfl, rfl⟩ := ok_inj h
    exact q H fz Go.refl ok
  | yes e =>
    unfold evC at h
    cases e2 : evE Φ e env st with
    | ok r st1 =>
      rw [e2] at h
      have h : (match r with | .d (.bool b) => Rs.ok b st1 | _ => .err) = .ok b st' := h
      split at h
      · obtain ⟨rfl, rfl⟩ := ok_inj h
        exact ⟨al, fz, st, env, ok, eo, noX e2 ⟨_, rfl, q⟩⟩
      · cases h
    | exc k st1 =>
      rw [e2] at h
      cases h
    | err =>
      rw [e2] at h
      cases h
theorem bind_inv {α β : Type} {r : Rs α} {k : α → List Ob → Rs β} {b : β} {st' : List Ob} (h : r.bind k = .ok b st') : ∃ a st, r = .ok a st ∧ k a st = .ok b st' := by
  cases r with
  | ok a st => exact ⟨a, st, rfl, h⟩
  | exc c st => cases h
  | err => cases h
/-- the new list that grows, beside the store -/
structure Side (K : PySem.W.Frag) (al : List Addr) (fz : Addr → Prop) (H : Hp) (L : Addr) (ds : List D) : Prop where
  ex : ∃ acc, H L = some (.lst acc) ∧ Rps K H fz acc ds
  al : L ∉ al
  fz : ¬ fz L
theorem Side.go {K : PySem.W.Frag} {al : List Addr} {fz fz' : Addr → Prop} {H H' : Hp} {L : Addr} {ds : List D} {st : List Ob} (s : Side K al fz H L ds) (ok : Ok K al fz st H) (g : Go al fz H fz' H') : Side K al fz' H' L ds := by
  obtain ⟨⟨acc, h1, h2⟩, n, nf⟩ := s
  refine ⟨⟨acc, g.keep _ _ h1 n, h2.kp (ok.kp g)⟩, n, fun z => ?_⟩
  rcases g.new _ z with z | z
  · exact nf z
  · rw [h1] at z
    cases z
theorem kp_side {fz : Addr → Prop} {H : Hp} {L : Addr} {acc ys : List V} (h : H L = some (.lst acc)) (nf : ¬ fz L) : Kp H fz (upd H L (.lst ys)) fz :=
  ⟨fun a xs e => by rw [upd_ne (show a ≠ L from fun z => by rw [z, h] at e; cases e)]; exact e, fun _ h => h, fun a xs z e => Rd.of_eq e fun o q => by rw [upd_ne (show a ≠ L from fun w => nf (w ▸ z))]; exact q, fun a o xs e => by rw [upd_ne (show a ≠ L from fun z => by rw [z, h] at e; cases e)]; exact e⟩
theorem Ok.side {K : PySem.W.Frag} {al : List Addr} {fz : Addr → Prop} {H : Hp} {L : Addr} {acc ys : List V} {st : List Ob} (ok : Ok K al fz st H) (h : H L = some (.lst acc)) (n : L ∉ al) (nf : ¬ fz L) : Ok K al fz st (L2.upd H L (.lst ys)) := by
  refine ⟨ok.nd, ?_, ok.dis, fun a z => ?_⟩
  · have aux : ∀ {l : List Addr} {m : List Ob}, L ∉ l → Paired (Ro K H fz) l m → Paired (Ro K (L2.upd H L (.lst ys)) fz) l m := by
      intro l m hn hp
      induction hp with
      | nil => exact .nil
      | cons r t ih => exact .cons (r.kp (kp_side h nf) (upd_ne fun e => hn (e ▸ List.mem_cons_self))) (ih fun m => hn (List.mem_cons_of_mem _ m))
    exact aux n ok.obs
  · obtain ⟨xs, e⟩ := ok.trk a z
    exact ⟨xs, (kp_side h nf).lst a xs z e⟩
/-- one more item -/
theorem Side.grow {K : PySem.W.Frag} {al : List Addr} {fz0 fz : Addr → Prop} {H0 H : Hp} {L : Addr} {ds : List D} {st : List Ob} {y : V} {d : D} (s : Side K al fz H L ds) (ok : Ok K al fz st H) (g : Go al fz0 H0 fz H) (n0 : H0 L = none) (r : Rp K H fz y d) :
    ∃ acc, H L = some (.lst acc) ∧ acc.length = ds.length ∧ Side K al fz (upd H L (.lst (acc ++ [y]))) L (ds ++ [d]) ∧ Ok K al fz st (upd H L (.lst (acc ++ [y]))) ∧ Go al fz0 H0 fz (upd H L (.lst (acc ++ [y]))) := by
  obtain ⟨⟨acc, h1, h2⟩, n, nf⟩ := s
  have kp := kp_side (ys := acc ++ [y]) h1 nf
  refine ⟨acc, h1, h2.len, ⟨⟨acc ++ [y], upd_same, (h2.kp kp).append (.cons (r.kp kp) .nil)⟩, n, nf⟩, ok.side h1 n nf, ⟨fun a o e m => ?_, fun a e => ?_, g.sub, g.new, fun a o u e => ?_⟩⟩
  · rw [upd_ne (show a ≠ L from fun z => by rw [z, n0] at e; cases e)]
    exact g.keep a o e m
  · by_cases c : a = L
    · rw [c, upd_same]
      simp
    · rw [upd_ne c]
      exact g.there a e
  · rw [upd_ne (show a ≠ L from fun z => by rw [z, n0] at e; cases e)]
    exact g.lk a o u e
theorem Fresh.ne {H : Hp} {v : V} {r : R} {b : Ob} {a L : Addr} (f : Fresh H v r) (e : r = .f b) (e2 : v = .ref a) (h : H L ≠ none) : a ≠ L := fun z => h (by rw [← z]; exact f b a e e2)
/-- a result becomes a datum -/
theorem RR.dat {K : PySem.W.Frag} {al : List Addr} {fz0 fz : Addr → Prop} {H0 H : Hp} {st : List Ob} {v : V} {r : R} {d : D} (ok : Ok K al fz st H) (g : Go al fz0 H0 fz H) (rr : RR K al fz H v r) (f : Fresh H0 v r) (e : toD r = some d) :
    ∃ fz', Go al fz0 H0 fz' H ∧ Ok K al fz' st H ∧ Rp K H fz' v d ∧ Kp H fz H fz' ∧ ∀ L, H0 L ≠ none → ¬ fz L → ¬ fz' L := by
  have t : Ars K al fz H0 H [v] [r] := Ars.cons ok g rr f Go.refl Ars.nil
  cases r with
  | d x =>
    cases e
    exact ⟨fz, g, ok, rr, ⟨fun _ _ h => h, fun _ h => h, fun _ _ _ h => h, fun _ _ _ h => h⟩, fun _ _ h => h⟩
  | o i => cases e
  | f b =>
    cases b with
    | dic kvs => cases e
    | dit l kvs => cases e
    | lst ds =>
      cases e
      obtain ⟨a, rfl, q, n, nf⟩ := rr
      have h0 : H0 a = none := f _ a rfl rfl
      refine ⟨fzp fz a, go_fix h0 g, ok.fix q n, q.fixed, ⟨fun _ _ h => h, fun _ h => .inl h, fun _ _ _ h => h, fun _ _ _ h => h⟩, fun L hL nL z => ?_⟩
      rcases z with z | rfl
      · exact nL z
      · exact hL h0
theorem Side.kp {K : PySem.W.Frag} {al : List Addr} {fz fz' : Addr → Prop} {H : Hp} {L : Addr} {ds : List D} (s : Side K al fz H L ds) (k : Kp H fz H fz') (nf : ¬ fz' L) : Side K al fz' H L ds := by
  obtain ⟨⟨acc, h1, h2⟩, n, _⟩ := s
  exact ⟨⟨acc, h1, h2.kp k⟩, n, nf⟩
noncomputable def eltF (Φ : Calls) (elt : E) (oc : Oe) (tg : Tg) (env : Envr) (x : D) (st : List Ob) : Rs (List D) := match bindT tg x env with
  | none => .err
  | some env' => (evC Φ oc env' st).bind fun t st => if t then (evE Φ elt env' st).bind fun r st => (match toD r with
    | some d => .ok [d] st
    | none => .err) else .ok [] st
theorem GoS.upd {N : Addr → Prop} {al al' : List Addr} {fz fz' : Addr → Prop} {H H' : Hp} {L : Addr} {o : HO} (g : GoS N al fz H al' fz' H') (n : N L) : GoS N al fz H al' fz' (L2.upd H' L o) :=
  ⟨g.ext, fun a u h m nn => by rw [upd_ne (show a ≠ L from fun z => nn (by rw [z]; exact n))]; exact g.keep a u h m nn, fun a h => by
    by_cases c : a = L
    · rw [c, upd_same]
      simp
    · rw [upd_ne c]
      exact g.there a h, g.sub, g.new, fun a q u h nn => by rw [upd_ne (show a ≠ L from fun z => nn (by rw [z]; exact n))]; exact g.lk a q u h nn⟩
theorem GoS.trans {N : Addr → Prop} {al : List Addr} {fz fz1 fz2 : Addr → Prop} {H H1 H2 : Hp} (g : GoS N al fz H al fz1 H1) (g' : GoS N al fz1 H1 al fz2 H2) : GoS N al fz H al fz2 H2 :=
  ⟨⟨[], by simp, fun _ h => by cases h⟩, fun a u h m nn => g'.keep a u (g.keep a u h m nn) m nn, fun a h => g'.there a (g.there a h), fun a h => g'.sub a (g.sub a h), fun a h => by
    rcases g'.new a h with h | h
    · exact g.new a h
    · exact .inr (by
        cases e : H a with
        | none => rfl
        | some o => exact absurd h (g.there a (by rw [e]; simp))), fun a q u h nn => g'.lk a q u (g.lk a q u h nn) nn⟩
/-- one turn of the innermost loop: the item x -/
theorem elt_v {K : PySem.W.Frag} {al : List Addr} {fz0 fz : Addr → Prop} {H0 H : Hp} {σ : L2.St} {env : Envr} {st st' : List Ob} {oc : Oe} {x : V} {d : D} {ys ds : List D} {vs : List Nat} {L : Addr} {Nx : Hp → Prop}
    (ok : Ok K al fz st H) (eo : EnvO K al fz H σ env) (r : Rp K H fz x d) (h : eltF Φ ea oc tg env d st = .ok ys st') (hv : ∀ i ∈ tg.slots, i ∈ vs) (s : Side K al fz H L ds) (g0 : Go al fz0 H0 fz H) (n0 : H0 L = none) (hz : (ds ++ ys).length ≤ sizeLine)
    (q : ∀ H' fz', Go al fz0 H0 fz' H' → GoS (fun a => a = L) al fz H al fz' H' → Ok K al fz' st' H' → Side K al fz' H' L (ds ++ ys) → Nx H') :
    gOf K tg x σ H fun σ2 H2 => wipe σ2 vs = wipe σ vs ∧ tC0 K cl Φ oc σ2 H2 fun b H3 =>
      if b = true then tE K cl Φ W0 ea σ2 H3 fun y H4 => ∃ acc, H4 L = some (.lst acc) ∧ acc.length < sizeLine ∧ Nx (upd H4 L (.lst (acc ++ [y]))) else Nx H3 := by
  unfold eltF at h
  cases hb : bindT tg d env with
  | none =>
    rw [hb] at h
    cases h
  | some env' =>
    rw [hb] at h
    dsimp only at h
    obtain ⟨t, st1, h1, h⟩ := bind_inv h
    refine wipe_gOf hv (bind_ok r eo hb fun σ2 eo2 => cond_v ok eo2 h1 fun H3 fz3 g3 ok3 => ?_)
    have s3 := s.go ok g3
    have hL3 : H3 L ≠ none := by
      obtain ⟨acc, e, _⟩ := s3.ex
      rw [e]
      simp
    cases t with
    | true =>
      rw [if_pos rfl] at h ⊢
      obtain ⟨rr, st2, h2, h⟩ := bind_inv h
      refine ⟨al, fz3, st1, env', ok3, eo2.kp ok g3, noX h2 fun y H4 fz4 g4 ok4 r4 f4 => ?_⟩
      split at h
      · rename_i d' hd
        obtain ⟨rfl, rfl⟩ := ok_inj h
        obtain ⟨fz5, g5, ok5, r5, k5, nf5⟩ := RR.dat ok4 g4 r4 f4 hd
        have s5 : Side K al fz5 H4 L ds := (s3.go ok3 g4).kp k5 (nf5 L hL3 (s3.go ok3 g4).fz)
        obtain ⟨acc, e1, e2, s6, ok6, g6⟩ := s5.grow ok5 (g0.trans (g3.trans g5)) n0 r5
        exact ⟨acc, e1, by rw [List.length_append] at hz; simp only [List.length_cons, List.length_nil] at hz; omega, q _ fz5 g6 ((GoX.of (g3.trans g5)).side.upd rfl) ok6 s6⟩
      · cases h
    | false =>
      rw [if_neg Bool.false_ne_true] at h ⊢
      obtain ⟨rfl, rfl⟩ := ok_inj h
      exact q H3 fz3 (g0.trans g3) (GoX.of g3).side ok3 (by rw [List.append_nil]; exact s3)
theorem compL_cons {f : D → List Ob → Rs (List D)} {g : Option Nat} {x : D} {xs zs : List D} {st st' : List Ob} (h : compL f g (x :: xs) st = .ok zs st') : ∃ ys st1 ws, f x st = .ok ys st1 ∧ same g st st1 ∧ compL f g xs st1 = .ok ws st' ∧ zs = ys ++ ws := by
  unfold compL at h
  split at h
  · rename_i ys st1 e
    split at h
    · rename_i sm
      split at h
      · rename_i ws st2 e2
        obtain ⟨rfl, rfl⟩ := ok_inj h
        exact ⟨ys, st1, ws, e, sm, e2, rfl⟩
      · cases h
    · cases h
  · cases h
theorem compL_nox {f : D → List Ob → Rs (List D)} {g : Option Nat} : ∀ {xs : List D} {st st' : List Ob} {c : Nat}, compL f g xs st ≠ .exc c st'
  | [], st, st', c, h => by cases h
  | x :: xs, st, st', c, h => by
    unfold compL at h
    repeat' (first | cases h | split at h)
theorem lc_v {it : It} {oc : Oe} {own : List Nat} {σ : L2.St} {H : Hp} {Q : VK} (hv : ∀ i ∈ tg.slots, i ∈ own) (hlen : True) (h : tE X.K cl Φ W (.comp ea tg it oc own) σ H Q) : tLc (tI X.K cl Φ W it) (gOf X.K tg) (tC0 X.K cl Φ oc) (tE X.K cl Φ W0 ea) own σ H Q := by
  obtain ⟨al, fz, st, env, ok, eo, h⟩ := h
  unfold evE at h
  refine ⟨al, fz, st, env, ok, eo, (Dn.bind h).mono fun p st1 q H1 fz1 J g ok1 wk L hL => ?_⟩
  obtain ⟨xs, gg⟩ := p
  obtain ⟨hz, G, Y, w, hy⟩ := wk (fun _ => False) (fun _ h => h.elim)
  dsimp only at q hz w hy
  cases e : compL (eltF Φ ea oc tg (wipeE env own)) gg xs st1 with
  | err =>
    have q : Dn X.K al fz H (WE W σ) cl (Rs.bind (compL (eltF Φ ea oc tg (wipeE env own)) gg xs st1) _) _ := q
    rw [e] at q
    exact q.elim
  | exc k st' => exact absurd e compL_nox
  | ok zs st' =>
    have q : Dn X.K al fz H (WE W σ) cl (Rs.bind (compL (eltF Φ ea oc tg (wipeE env own)) gg xs st1) _) _ := q
    rw [e] at q
    have q : Post X.K al fz H (.f (.lst zs)) st' Q := q
    have nal : L ∉ al := fun m => by
      obtain ⟨b, _, r⟩ := ok1.mem m
      exact r.some hL
    have nfz : ¬ fz1 L := fun m => by
      obtain ⟨ys, h⟩ := ok1.trk L m
      obtain ⟨o, e, _⟩ := Rd.some h
      rw [hL] at e
      cases e
    refine lc_it w (fun i H2 => ∃ fz2 st2 ds ws, Go al fz1 H1 fz2 H2 ∧ Ok X.K al fz2 st2 H2 ∧ Side X.K al fz2 H2 L ds ∧ ds.length ≤ i ∧ same gg st1 st2 ∧ compL (eltF Φ ea oc tg (wipeE env own)) gg (xs.drop i) st2 = .ok ws st' ∧ zs = ds ++ ws) ?_ ?_ ?_ ?_
    · refine ⟨fz1, st1, [], zs, go_new hL, ok1.new hL, ⟨⟨[], upd_same, .nil⟩, nal, nfz⟩, Nat.le_refl _, same_refl, e, rfl⟩
    · rintro i H2 hi ⟨fz2, st2, ds, ws, g2, ok2, s2, hl, sm, _⟩
      exact (hy al st2 H2 fz2 (GoX.of g2).side ok2 sm).1
    · rintro i x H2 H3 hi ⟨fz2, st2, ds, ws, g2, ok2, s2, hl, sm, hc, hzs⟩ y
      obtain ⟨fz3, g3, ok3, r3⟩ := (hy al st2 H2 fz2 (GoX.of g2).side ok2 sm).2 i xs[i] x H3 (List.getElem?_eq_getElem hi) y
      rw [drop_at hi] at hc
      obtain ⟨ys, st3, ws', h1, sm1, h2, rfl⟩ := compL_cons hc
      have eo3 : EnvO X.K al fz3 H3 (wipe σ own) (wipeE env own) := ((eo.kp ok g).kp ok1 (g2.trans g3)).wipe own
      have hlen2 : ys.length ≤ 1 := by
        unfold eltF at h1
        split at h1
        · cases h1
        · obtain ⟨t, _, _, h1⟩ := bind_inv h1
          split at h1
          · obtain ⟨r, _, _, h1⟩ := bind_inv h1
            split at h1
            · obtain ⟨rfl, _⟩ := ok_inj h1
              exact Nat.le_refl _
            · cases h1
          · obtain ⟨rfl, _⟩ := ok_inj h1
            exact Nat.zero_le _
      have := elt_v (cl := cl) (Nx := fun H' => ∃ fz2 st2 ds ws, Go al fz1 H1 fz2 H' ∧ Ok X.K al fz2 st2 H' ∧ Side X.K al fz2 H' L ds ∧ ds.length ≤ i + 1 ∧ same gg st1 st2 ∧ compL (eltF Φ ea oc tg (wipeE env own)) gg (xs.drop (i + 1)) st2 = .ok ws st' ∧ zs = ds ++ ws) ok3 eo3 r3 h1 hv (s2.go ok2 g3) (g2.trans g3) hL (by rw [List.length_append]; omega)
        fun H' fz' g' _ ok' s' => ⟨fz', st3, ds ++ ys, ws', g', ok', s', by rw [List.length_append]; omega, same_trans sm sm1, h2, by rw [hzs, List.append_assoc]⟩
      rw [wipe_wipe (σ := σ) (us := own) (vs := own) fun _ h => h] at this
      exact this
    · rintro H2 ⟨fz2, st2, ds, ws, g2, ok2, s2, hl, sm, hc, hzs⟩
      rw [List.drop_length] at hc
      obtain ⟨rfl, rfl⟩ := ok_inj (show Rs.ok [] st2 = .ok ws st' from hc)
      rw [List.append_nil] at hzs
      subst hzs
      obtain ⟨⟨acc, h1, h2⟩, n, nf⟩ := s2
      refine q _ H2 fz2 (g.trans g2) ok2 ⟨L, rfl, ⟨acc, h1, ?_, h2⟩, n, nf⟩ fun b a _ e => ?_
      · rw [h2.len]
        omega
      · cases e
        exact g.back hL
end
end Ev

/-! Ev15: comprehensions with two loops; the rules for comprehensions -/
namespace Ev
open PySem PySem.Spec PyProof.Rows L2 RZ
theorem in_it {J : L2.It} {n : Nat} {G : Hp → Prop} {Y : Nat → Hp → V → Hp → Prop} (w : Walk J n G Y) {B : V → Hp → (Hp → Prop) → Prop} {Nx : Hp → Prop} {H4 : Hp} (Pv : Nat → Hp → Prop) (h0 : Pv 0 H4) (hG : ∀ i H, i ≤ n → Pv i H → G H)
    (hs : ∀ i x H H', i < n → Pv i H → Y i H x H' → B x H' (Pv (i + 1))) (hd : ∀ H, Pv n H → Nx H) :
    ∃ W : Nat → Nat → Hp → Prop, (∃ m, W 0 m H4) ∧ ∀ i m H, W i m H → (J.stop i H ∧ Nx H) ∨ (J.go i H ∧ ∃ N : Hp → Prop, (∀ H', N H' → ∃ m', m' < m ∧ W (i + 1) m' H') ∧ ∀ x H', J.yld i H x H' → B x H' N) := by
  refine ⟨fun i m H => m = n - i ∧ i ≤ n ∧ Pv i H, ⟨n, by simp, Nat.zero_le _, h0⟩, ?_⟩
  rintro i m H ⟨rfl, hi, p⟩
  have q := hG i H hi p
  by_cases hlt : i < n
  · exact .inr ⟨w.goes i H hlt q, Pv (i + 1), fun H' p' => ⟨n - (i + 1), by omega, rfl, hlt, p'⟩, fun x H' y => hs i x H H' hlt p (w.yields i H x H' hlt q y)⟩
  · have e : i = n := by omega
    subst e
    exact .inl ⟨w.stops H q, hd H p⟩
noncomputable def inF2 (Φ : Calls) (elt : E) (oc : Oe) (tg : Tg) (it' : It) (oc' : Oe) (tg' : Tg) (own' : List Nat) (env : Envr) (x : D) (st : List Ob) : Rs (List D) := match bindT tg x env with
  | none => .err
  | some env' => (evC Φ oc env' st).bind fun t st => if t then (evI Φ it' env' st).bind fun p' st => compL (eltF Φ elt oc' tg' (wipeE env' own')) p'.2 p'.1 st else .ok [] st
section
variable {X : Cx} {cl : Nat → Value} {Φ : Calls} {W : WX} {a b c tgE iter elt : Expr} {ea eb ec : E} {pos : Pos} {tg tg' : Tg}
theorem lc2_v {it it' : It} {oc oc' : Oe} {own own' : List Nat} {σ : L2.St} {H : Hp} {Q : VK} (hv : ∀ i ∈ tg.slots, i ∈ own) (hv' : ∀ i ∈ tg'.slots, i ∈ own') (h : tE X.K cl Φ W (.comp2 ea tg it oc tg' it' oc' own own') σ H Q) :
    tLc2 (tI X.K cl Φ W it) (gOf X.K tg) (tC0 X.K cl Φ oc) (tI X.K cl Φ W0 it') (gOf X.K tg') (tC0 X.K cl Φ oc') (tE X.K cl Φ W0 ea) own own' σ H Q := by
  obtain ⟨al, fz, st, env, ok, eo, h⟩ := h
  unfold evE at h
  refine ⟨al, fz, st, env, ok, eo, (Dn.bind h).mono fun p st1 q H1 fz1 J g ok1 wk L hL => ?_⟩
  obtain ⟨xs, gg⟩ := p
  obtain ⟨hz, G, Y, w, hy⟩ := wk (fun _ => False) (fun _ h => h.elim)
  dsimp only at q hz w hy
  have q : Dn X.K al fz H (WE W σ) cl (Rs.bind (compL (inF2 Φ ea oc tg it' oc' tg' own' (wipeE env own)) gg xs st1) fun ds st => if ds.length ≤ 1000000 then Rs.ok (R.f (.lst ds)) st else .err) (fun r st' => Post X.K al fz H r st' Q) := q
  cases e : compL (inF2 Φ ea oc tg it' oc' tg' own' (wipeE env own)) gg xs st1 with
  | err =>
    rw [e] at q
    exact q.elim
  | exc k st' => exact absurd e compL_nox
  | ok zs st' =>
    rw [e] at q
    have q : Dn X.K al fz H (WE W σ) cl (if zs.length ≤ 1000000 then Rs.ok (R.f (.lst zs)) st' else .err) (fun r st' => Post X.K al fz H r st' Q) := q
    by_cases hlz : zs.length ≤ 1000000
    · rw [if_pos hlz] at q
      have q : Post X.K al fz H (.f (.lst zs)) st' Q := q
      have hlz' := size_ok hlz
      have nal : L ∉ al := fun m => by
        obtain ⟨b, _, r⟩ := ok1.mem m
        exact r.some hL
      have nfz : ¬ fz1 L := fun m => by
        obtain ⟨ys, h⟩ := ok1.trk L m
        obtain ⟨o, e, _⟩ := Rd.some h
        rw [hL] at e
        cases e
      refine in_it w (B := fun x H' Nx => gOf X.K tg x (wipe σ own) H' fun σ2 H2 => wipe σ2 own = wipe σ own ∧ tC0 X.K cl Φ oc σ2 H2 fun b H3 => if b = true then tI X.K cl Φ W0 it' σ2 H3 fun J1 H4 => ∃ W1 : Nat → Nat → Hp → Prop, (∃ m, W1 0 m H4) ∧ ∀ j k H, W1 j k H →
              (J1.stop j H ∧ Nx H) ∨
              (J1.go j H ∧ ∃ Nx1 : Hp → Prop, (∀ H', Nx1 H' → ∃ k', k' < k ∧ W1 (j + 1) k' H') ∧ ∀ x H', J1.yld j H x H' → gOf X.K tg' x (wipe σ2 own') H' fun σ3 H5 => wipe σ3 own' = wipe σ2 own' ∧ tC0 X.K cl Φ oc' σ3 H5 fun b H6 =>
              if b = true then tE X.K cl Φ W0 ea σ3 H6 fun y H7 => ∃ acc, H7 L = some (.lst acc) ∧ acc.length < sizeLine ∧ Nx1 (upd H7 L (.lst (acc ++ [y]))) else Nx1 H6)
              else Nx H3) (fun i H2 => ∃ fz2 st2 ds ws, Go al fz1 H1 fz2 H2 ∧ Ok X.K al fz2 st2 H2 ∧ Side X.K al fz2 H2 L ds ∧ same gg st1 st2 ∧ compL (inF2 Φ ea oc tg it' oc' tg' own' (wipeE env own)) gg (xs.drop i) st2 = .ok ws st' ∧ zs = ds ++ ws) ?_ ?_ ?_ ?_
      · exact ⟨fz1, st1, [], zs, go_new hL, ok1.new hL, ⟨⟨[], upd_same, .nil⟩, nal, nfz⟩, same_refl, e, rfl⟩
      · rintro i H2 hi ⟨fz2, st2, ds, ws, g2, ok2, s2, sm, _⟩
        exact (hy al st2 H2 fz2 (GoX.of g2).side ok2 sm).1
      · rintro i x H2 H3 hi ⟨fz2, st2, ds, ws, g2, ok2, s2, sm, hc, hzs⟩ y
        obtain ⟨fz3, g3, ok3, r3⟩ := (hy al st2 H2 fz2 (GoX.of g2).side ok2 sm).2 i xs[i] x H3 (List.getElem?_eq_getElem hi) y
        rw [drop_at hi] at hc
        obtain ⟨ys, st3, ws', h1, sm1, h2, rfl⟩ := compL_cons hc
        have eo3 : EnvO X.K al fz3 H3 (wipe σ own) (wipeE env own) := ((eo.kp ok g).kp ok1 (g2.trans g3)).wipe own
        have s3 := s2.go ok2 g3
        have g13 := g2.trans g3
        unfold inF2 at h1
        cases hb : bindT tg xs[i] (wipeE env own) with
        | none =>
          rw [hb] at h1
          cases h1
        | some env' =>
          rw [hb] at h1
          dsimp only at h1
          obtain ⟨t, st4, k1, h1⟩ := bind_inv h1
          have step := bind_ok (K := X.K) (Q := fun σ2 H2 => tC0 X.K cl Φ oc σ2 H2 fun b H3 => if b = true then tI X.K cl Φ W0 it' σ2 H3 fun J1 H4 => ∃ W1 : Nat → Nat → Hp → Prop, (∃ m, W1 0 m H4) ∧ ∀ j k H, W1 j k H →
            (J1.stop j H ∧ (∃ fz2 st2 ds ws, Go al fz1 H1 fz2 H ∧ Ok X.K al fz2 st2 H ∧ Side X.K al fz2 H L ds ∧ same gg st1 st2 ∧ compL (inF2 Φ ea oc tg it' oc' tg' own' (wipeE env own)) gg (xs.drop (i + 1)) st2 = .ok ws st' ∧ zs = ds ++ ws)) ∨
            (J1.go j H ∧ ∃ Nx1 : Hp → Prop, (∀ H', Nx1 H' → ∃ k', k' < k ∧ W1 (j + 1) k' H') ∧ ∀ x H', J1.yld j H x H' → gOf X.K tg' x (wipe σ2 own') H' fun σ3 H5 => wipe σ3 own' = wipe σ2 own' ∧ tC0 X.K cl Φ oc' σ3 H5 fun b H6 =>
            if b = true then tE X.K cl Φ W0 ea σ3 H6 fun y H7 => ∃ acc, H7 L = some (.lst acc) ∧ acc.length < sizeLine ∧ Nx1 (upd H7 L (.lst (acc ++ [y]))) else Nx1 H6)
            else (∃ fz2 st2 ds ws, Go al fz1 H1 fz2 H3 ∧ Ok X.K al fz2 st2 H3 ∧ Side X.K al fz2 H3 L ds ∧ same gg st1 st2 ∧ compL (inF2 Φ ea oc tg it' oc' tg' own' (wipeE env own)) gg (xs.drop (i + 1)) st2 = .ok ws st' ∧ zs = ds ++ ws)) r3 eo3 hb
            fun σ2 eo2 => cond_v ok3 eo2 k1 fun H4 fz4 g4 ok4 => ?_
          · have := wipe_gOf (K := X.K) (vs := own) hv step
            rw [wipe_wipe (σ := σ) (us := own) (vs := own) fun _ h => h] at this
            exact this
          · have s4 := s3.go ok3 g4
            cases t with
            | false =>
              rw [if_neg Bool.false_ne_true] at h1 ⊢
              obtain ⟨rfl, rfl⟩ := ok_inj h1
              exact ⟨fz4, _, ds, ws', g13.trans g4, ok4, s4, same_trans sm sm1, h2, by rw [hzs]; rfl⟩
            | true =>
              rw [if_pos rfl] at h1 ⊢
              obtain ⟨⟨xs1, gg1⟩, st5, k2, h1⟩ := bind_inv h1
              dsimp only at h1
              refine ⟨al, fz4, st4, env', ok4, eo2.kp ok3 g4, noX k2 fun H5 fz5 J1 g5 ok5 wk1 => ?_⟩
              have s5 := s4.go ok4 g5
              have g15 := g13.trans (g4.trans g5)
              have eo5 := (eo2.kp ok3 g4).kp ok4 g5
              have hN : NOk (fun a => a = L) al fz4 H4 := fun a e => by
                subst e
                obtain ⟨acc, e, _⟩ := s4.ex
                exact ⟨s4.al, s4.fz, acc, e⟩
              obtain ⟨hz1, G1, Y1, w1, hy1⟩ := wk1 _ hN
              dsimp only at hz1 w1 hy1
              refine in_it w1 (B := fun x H' Nx1 => gOf X.K tg' x (wipe σ2 own') H' fun σ3 H5 => wipe σ3 own' = wipe σ2 own' ∧ tC0 X.K cl Φ oc' σ3 H5 fun b H6 =>
                if b = true then tE X.K cl Φ W0 ea σ3 H6 fun y H7 => ∃ acc, H7 L = some (.lst acc) ∧ acc.length < sizeLine ∧ Nx1 (upd H7 L (.lst (acc ++ [y]))) else Nx1 H6)
                (fun j H6 => ∃ fz6 st6 ds6 vs, GoS (fun a => a = L) al fz5 H5 al fz6 H6 ∧ Go al fz1 H1 fz6 H6 ∧ Ok X.K al fz6 st6 H6 ∧ Side X.K al fz6 H6 L ds6 ∧ same gg1 st5 st6 ∧ compL (eltF Φ ea oc' tg' (wipeE env' own')) gg1 (xs1.drop j) st6 = .ok vs st3 ∧ zs = ds6 ++ vs ++ ws') ?_ ?_ ?_ ?_
              · exact ⟨fz5, st5, ds, ys, GoX.refl.side, g15, ok5, s5, same_refl, h1, by rw [hzs, List.append_assoc]⟩
              · rintro j H6 hj ⟨fz6, st6, ds6, vs, gs, g6, ok6, s6, sm6, _⟩
                exact (hy1 al st6 H6 fz6 gs ok6 sm6).1
              · rintro j x1 H6 H7 hj ⟨fz6, st6, ds6, vs, gs, g6, ok6, s6, sm6, hc6, hzs6⟩ y1
                obtain ⟨fz7, g7, ok7, r7⟩ := (hy1 al st6 H6 fz6 gs ok6 sm6).2 j xs1[j] x1 H7 (List.getElem?_eq_getElem hj) y1
                rw [drop_at hj] at hc6
                obtain ⟨ys6, st7, vs', k3, sm7, k4, rfl⟩ := compL_cons hc6
                have k5 := ok5.kpS (hN.go g5) (gs.trans (GoX.of g7).side)
                have eo7 : EnvO X.K al fz7 H7 σ2 env' := ⟨eo5.len, fun i r h => ⟨(eo5.at_ i r h).1, by
                  obtain ⟨v, e1, e2⟩ := (eo5.at_ i r h).2
                  refine ⟨v, e1, ?_⟩
                  cases r with
                  | d z => exact Rp.kp k5 e2
                  | o z => exact e2
                  | f z => exact absurd rfl ((eo5.at_ i _ h).1 z)⟩⟩
                have step1 := elt_v (cl := cl) (Nx := fun H6 => ∃ fz6 st6 ds6 vs, GoS (fun a => a = L) al fz5 H5 al fz6 H6 ∧ Go al fz1 H1 fz6 H6 ∧ Ok X.K al fz6 st6 H6 ∧ Side X.K al fz6 H6 L ds6 ∧ same gg1 st5 st6 ∧ compL (eltF Φ ea oc' tg' (wipeE env' own')) gg1 (xs1.drop (j + 1)) st6 = .ok vs st3 ∧ zs = ds6 ++ vs ++ ws')
                  ok7 (eo7.wipe own') r7 k3 hv' (s6.go ok6 g7) (g6.trans g7) hL (by
                    have := congrArg List.length hzs6
                    simp only [List.length_append] at this ⊢
                    omega)
                  fun H' fz' g' gs' ok' s' => ⟨fz', st7, ds6 ++ ys6, vs', (gs.trans (GoX.of g7).side).trans gs', g', ok', s', same_trans sm6 sm7, k4, by rw [hzs6]; simp⟩
                rw [wipe_wipe (σ := σ2) (us := own') (vs := own') fun _ h => h] at step1
                exact step1
              · rintro H6 ⟨fz6, st6, ds6, vs, gs, g6, ok6, s6, sm6, hc6, hzs6⟩
                rw [List.drop_length] at hc6
                obtain ⟨rfl, rfl⟩ := ok_inj (show Rs.ok [] st6 = .ok vs st3 from hc6)
                exact ⟨fz6, _, ds6, ws', g6, ok6, s6, same_trans sm sm1, h2, by rw [hzs6]; simp⟩
      · rintro H2 ⟨fz2, st2, ds, ws, g2, ok2, s2, sm, hc, hzs⟩
        rw [List.drop_length] at hc
        obtain ⟨rfl, rfl⟩ := ok_inj (show Rs.ok [] st2 = .ok ws st' from hc)
        rw [List.append_nil] at hzs
        subst hzs
        obtain ⟨⟨acc, h1, h2⟩, n, nf⟩ := s2
        refine q _ H2 fz2 (g.trans g2) ok2 ⟨L, rfl, ⟨acc, h1, ?_, h2⟩, n, nf⟩ fun b a _ e => ?_
        · rw [h2.len]
          exact hlz'
        · cases e
          exact g.back hL
    · rw [if_neg hlz] at q
      exact q.elim
end
end Ev

/-! Ev16: order, sorting, sets, enumerate -/
namespace Ev
open PySem PySem.Spec PyProof.Rows L2 RZ
theorem readsAll_len {h : Heap} : ∀ {vs : List Value} {ds : List D} {as : List Addr}, ReadsAll h vs ds as → vs.length = ds.length
  | _, _, _, .nil => rfl
  | _, _, _, .cons _ t => congrArg Nat.succ (readsAll_len t)
theorem readsAll_at {h : Heap} : ∀ {vs : List Value} {ds : List D} {as : List Addr} {j : Nat} {v : Value}, ReadsAll h vs ds as → vs[j]? = some v → ∃ d bs, ds[j]? = some d ∧ Reads h v d bs
  | _, _, _, _, _, .nil, e => by simp at e
  | _, _, _, 0, _, .cons r t, e => by
    simp at e
    subst e
    exact ⟨_, _, rfl, r⟩
  | _, _, _, j + 1, _, .cons r t, e => by
    obtain ⟨d, bs, e2, q⟩ := readsAll_at (j := j) t (by simpa using e)
    exact ⟨d, bs, by simpa using e2, q⟩
theorem layAll_at : ∀ {ds : List D} {j : Nat} {d : D}, PyData.canLayAll0 ds = true → ds[j]? = some d → d.canLay0 = true
  | [], _, _, _, e => by simp at e
  | x :: xs, 0, _, h, e => by
    simp at e
    subst e
    rw [PyData.canLayAll0, Bool.and_eq_true] at h
    exact h.1
  | x :: xs, j + 1, _, h, e => by
    rw [PyData.canLayAll0, Bool.and_eq_true] at h
    exact layAll_at (j := j) h.2 (by simpa using e)
theorem depthAll_at : ∀ {ds : List D} {j : Nat} {d : D}, ds[j]? = some d → d.depth ≤ PyData.depthAll ds
  | [], _, _, e => by simp at e
  | x :: xs, 0, _, e => by
    simp at e
    subst e
    rw [PyData.depthAll]
    exact Nat.le_max_left _ _
  | x :: xs, j + 1, _, e => by
    rw [PyData.depthAll]
    exact Nat.le_trans (depthAll_at (j := j) (by simpa using e)) (Nat.le_max_right _ _)
theorem cmpAll_at : ∀ {xs ys : List D} {j : Nat} {x y : D}, cmpAll xs ys = true → xs[j]? = some x → ys[j]? = some y → cmpOk x y = true
  | [], _, _, _, _, _, e, _ => by simp at e
  | _ :: _, [], _, _, _, _, _, e => by simp at e
  | a :: xs, b :: ys, 0, _, _, h, e1, e2 => by
    simp at e1 e2
    subst e1 e2
    rw [cmpAll, Bool.and_eq_true] at h
    exact h.1
  | a :: xs, b :: ys, j + 1, _, _, h, e1, e2 => by
    rw [cmpAll, Bool.and_eq_true] at h
    exact cmpAll_at (j := j) h.2 (by simpa using e1) (by simpa using e2)
/-- the order of tuples as the machine walks it -/
def eAt (xs ys : List D) (j : Nat) : Bool := match xs[j]?, ys[j]? with
  | some x, some y => PyData.eqv x y
  | _, _ => false
def rAt (xs ys : List D) (j : Nat) : Bool := match xs[j]?, ys[j]? with
  | some x, some y => ltD x y
  | _, _ => false
theorem eAt_of {xs ys : List D} {j : Nat} {x y : D} (h1 : xs[j]? = some x) (h2 : ys[j]? = some y) : eAt xs ys j = PyData.eqv x y ∧ rAt xs ys j = ltD x y := by
  unfold eAt rAt
  rw [h1, h2]
  exact ⟨rfl, rfl⟩
theorem ltAll_lex (xs ys : List D) (e r : Nat → Bool) : ∀ (us vs : List D) (i : Nat), (∀ j x y, us[j]? = some x → vs[j]? = some y → e (i + j) = PyData.eqv x y ∧ r (i + j) = ltD x y) →
    ltAll us vs = Ob.lexAt e r (decide (us.length < vs.length)) i (min us.length vs.length)
  | [], [], i, h => by simp [ltAll, Ob.lexAt]
  | [], _ :: _, i, h => by simp [ltAll, Ob.lexAt]
  | _ :: _, [], i, h => by simp [ltAll, Ob.lexAt]
  | x :: us, y :: vs, i, h => by
    have h0 := h 0 x y rfl rfl
    have ih := ltAll_lex xs ys e r us vs (i + 1) fun j a b h1 h2 => by
      have := h (j + 1) a b (by simpa using h1) (by simpa using h2)
      rw [show i + 1 + j = i + (j + 1) by omega]
      exact this
    rw [ltAll, List.length_cons, List.length_cons, show min (us.length + 1) (vs.length + 1) = min us.length vs.length + 1 by omega, Ob.lexAt_succ]
    rw [show i = i + 0 by omega, h0.1, h0.2, ih]
    have e1 : decide (us.length + 1 < vs.length + 1) = decide (us.length < vs.length) := by
      by_cases c : us.length < vs.length
      · rw [decide_eq_true c, decide_eq_true (by omega)]
      · rw [decide_eq_false c, decide_eq_false (by omega)]
    rw [e1]
mutual
theorem lt_reads : ∀ (d e : D) (A : Around) (s : Shared) (v u : Value) (as bs : List Addr), Reads s.heap v d as → Reads s.heap u e bs → cmpOk d e = true → d.canLay0 = true → e.canLay0 = true → A.units + min d.depth e.depth < cLine → Ob.RcOp .Lt A s v u (ltD d e)
  | .int i, e, A, s, v, u, as, bs, r1, r2, c, l1, l2, hu => by
    cases e <;> first | (cases c; done) | skip
    cases r1
    cases r2
    exact Ob.RcOp.lt_int _ _ _ _
  | .str x, e, A, s, v, u, as, bs, r1, r2, c, l1, l2, hu => by
    cases e <;> first | (cases c; done) | skip
    cases r1
    cases r2
    exact fun _ _ _ _ h => PyProof.Rows.lt_str h
  | .tuple xs, e, A, s, v, u, as, bs, r1, r2, c, l1, l2, hu => by
    cases e <;> first | (cases c; done) | skip
    rename_i ys
    cases r1 with
    | tuple a1 a2 a3 a4 =>
      cases r2 with
      | tuple b1 b2 b3 b4 =>
        rename_i va oa vs n vb ob us m
        have n1 := readsAll_len a4
        have n2 := readsAll_len b4
        rw [PyData.canLay0] at l1 l2
        have c' : cmpAll xs ys = true := c
        have hu' : A.units + 1 + min (PyData.depthAll xs) (PyData.depthAll ys) < cLine := by
          rw [PyData.depth, PyData.depth] at hu
          omega
        have key := lt_readsAll xs ys A.in1 s vs.toList us.toList _ _ a4 b4 c' l1 l2 (by show A.units + 1 + _ < _; exact hu')
        have get : ∀ (j : Nat) (h1 : j < vs.size) (h2 : j < us.size), ∃ x y as bs, xs[j]? = some x ∧ ys[j]? = some y ∧ Reads s.heap vs[j] x as ∧ Reads s.heap us[j] y bs := fun j h1 h2 => by
          obtain ⟨x, as, e1, q1⟩ := readsAll_at (j := j) (v := vs[j]) a4 (by simp [h1])
          obtain ⟨y, bs, e2, q2⟩ := readsAll_at (j := j) (v := us[j]) b4 (by simp [h2])
          exact ⟨x, y, as, bs, e1, e2, q1, q2⟩
        have fin := Ob.RcOp.tuples_lt (A := A) (e := eAt xs ys) (r := rAt xs ys) ⟨_, a1, a2, _, a3⟩ ⟨_, b1, b2, _, b3⟩ (by omega)
          (fun j h1 h2 => by
            obtain ⟨x, y, as, bs, e1, e2, q1, q2⟩ := get j h1 h2
            rw [(eAt_of e1 e2).1]
            have := depthAll_at e1
            have := depthAll_at e2
            exact SeqAt.eqAt_reads x y A.in1 s _ _ _ _ q1 q2 (layAll_at l1 e1) (layAll_at l2 e2) (by show A.units + 1 + _ < _; omega))
          (fun j h1 h2 _ => by
            obtain ⟨x, y, as, bs, e1, e2, q1, q2⟩ := get j h1 h2
            rw [(eAt_of e1 e2).2]
            exact key j x y _ _ e1 e2 (by simp [h1]) (by simp [h2]))
        have e3 : ltD (.tuple xs) (.tuple ys) = ltAll xs ys := rfl
        rw [e3, ltAll_lex xs ys (eAt xs ys) (rAt xs ys) xs ys 0 fun j x y h1 h2 => by rw [Nat.zero_add]; exact eAt_of h1 h2]
        rw [← n1, ← n2]
        simpa using fin
  | .none, e, A, s, v, u, as, bs, r1, r2, c, l1, l2, hu => by cases e <;> cases c
  | .bool _, e, A, s, v, u, as, bs, r1, r2, c, l1, l2, hu => by cases e <;> cases c
  | .list _, e, A, s, v, u, as, bs, r1, r2, c, l1, l2, hu => by cases e <;> cases c
  | .dict _, e, A, s, v, u, as, bs, r1, r2, c, l1, l2, hu => by cases e <;> cases c
theorem lt_readsAll : ∀ (xs ys : List D) (A : Around) (s : Shared) (vs us : List Value) (as bs : List Addr), ReadsAll s.heap vs xs as → ReadsAll s.heap us ys bs → cmpAll xs ys = true → PyData.canLayAll0 xs = true → PyData.canLayAll0 ys = true → A.units + min (PyData.depthAll xs) (PyData.depthAll ys) < cLine →
    ∀ (j : Nat) (x y : D) (v u : Value), xs[j]? = some x → ys[j]? = some y → vs[j]? = some v → us[j]? = some u → Ob.RcOp .Lt A s v u (ltD x y)
  | [], ys, A, s, vs, us, as, bs, r1, r2, c, l1, l2, hu, j, x, y, v, u, e1, e2, e3, e4 => by simp at e1
  | a :: xs, [], A, s, vs, us, as, bs, r1, r2, c, l1, l2, hu, j, x, y, v, u, e1, e2, e3, e4 => by simp at e2
  | a :: xs, b :: ys, A, s, vs, us, as, bs, r1, r2, c, l1, l2, hu, j, x, y, v, u, e1, e2, e3, e4 => by
    cases r1 with
    | cons ra r1 =>
      cases r2 with
      | cons rb r2 =>
        rw [cmpAll, Bool.and_eq_true] at c
        rw [PyData.canLayAll0, Bool.and_eq_true] at l1 l2
        rw [PyData.depthAll, PyData.depthAll] at hu
        cases j with
        | zero =>
          simp at e1 e2 e3 e4
          subst e1 e2 e3 e4
          exact lt_reads a b A s _ _ _ _ ra rb c.1 l1.1 l2.1 (by omega)
        | succ j => exact lt_readsAll xs ys A s _ _ _ _ r1 r2 c.2 l1.2 l2.2 (by omega) j x y v u (by simpa using e1) (by simpa using e2) (by simpa using e3) (by simpa using e4)
end
section
variable {X : Cx} {cl : Nat → Value} {Φ : Calls} {W : WX} {a b c : Expr} {ea eb : E} {pos : Pos}
theorem op_ltE (hu : X.A.units + 200 < cLine) : OpR X (compareOp .Lt) (CV X.K .lt) := by
  intro pins s σ H x y v u Q I rx ry h
  obtain ⟨al, fz, st, r1, r2, r0, st', ok, h1, h2, e, q⟩ := cv_of h
  replace e : (match r1, r2 with | .d a, .d b => if (cmpOk a b && depthOk a b) = true then okB (ltD a b) st else .err | _, _ => .err) = .ok r0 st' := e
  split at e
  · rename_i d1 d2
    obtain ⟨hc, e⟩ := if_ok e
    obtain ⟨rfl, rfl⟩ := okB_ok e
    rw [Bool.and_eq_true] at hc
    have h1 : Rp X.K H fz x d1 := h1
    have h2 : Rp X.K H fz y d2 := h2
    obtain ⟨as, t1⟩ := Dp.reads I d1 x v h1.dp rx
    obtain ⟨bs, t2⟩ := Dp.reads I d2 y u h2.dp ry
    exact lt_reads d1 d2 X.A s v u as bs t1 t2 hc.1 h1.lay h2.lay (depth_room hu hc.2) _ _ _ _ ⟨.bl _, H, I, rfl, q.dat ok (.bl _)⟩
  · cases e
end
end Ev

/-! Ev16b: enumerate of a tuple -/
namespace PySem
open AutoSeq1 (wpAny_loadPart')
theorem meets_enumerate_newB1 {v : Value} {o : Obj} {H : Heap → Prop} (B : Begins v o H) :
    Meets (Builtin.«enumerate.__new__» ⟨[.type "enumerate", v], []⟩) (fun _ R s => H s.heap ∧
      R (.ok (.ret (.ref (s.heap.push o).objs.size))) { s with heap := (s.heap.push o).push { cls := .type "enumerate", data := .fields #[.none, .bool false, .ref s.heap.objs.size, rawInt 0, .none, .none] } }) :=
  .of_wp fun prog w A R s h => by
    obtain ⟨hp, g, d, tk, os⟩ := s
    obtain ⟨h1, h⟩ := h
    have hsub := sub_enumerate
    have q1 : ∀ {A' : Around} {E : Value → Shared → Prop} {Q : Value → Shared → Prop}, Q (.ref hp.objs.size) ⟨hp.push o, g, d, tk, os⟩ → wpAny (model prog w) A' (pyIter v) Q E ⟨hp, g, d, tk, os⟩ :=
      fun q => B.iter prog w _ _ ⟨hp, g, d, tk, os⟩ _ h1 q
    wp_walk using q1
    refine wpAny_stack_any fun st => wpAny_pure ?_
    split
    · rename_i c _ _ _ _ _
      cases (c == Value.type "enumerate")
      · wp_walk using q1
        exact ⟨_, rfl, h⟩
      · wp_walk using q1
        exact ⟨_, rfl, h⟩
    · wp_walk using q1
      exact ⟨_, rfl, h⟩
theorem enum_begins1 {prog : Program} {w : World} {A : Around} {E : Value → Shared → Prop} {s : Shared} {v : Value} {o : Obj} {H : Heap → Prop} {Q : Value → Shared → Prop} (B : Begins v o H) (h1 : H s.heap)
    (h : ∀ h', IsEnum h' (s.heap.objs.size + 1) s.heap.objs.size 0 .none → h'.get? s.heap.objs.size = some o → h'.objs.size = s.heap.objs.size + 2 →
      (∀ b o, s.heap.get? b = some o → h'.get? b = some o) → Q (.ref (s.heap.objs.size + 1)) { s with heap := h' }) :
    wpAny (model prog w) A (call (.type "enumerate") [v]) Q E s := by
  refine callType_new F.called_enumerate (by decide) (F.typeCall_enumerate_1 _) (F.newCall_enumerate_1 _) (fun obj => F.args_object_init_2 obj _) F.entry_enumerate_new
    (meets_enumerate_newB1 B) ⟨h1, ?_⟩
  have hz : (s.heap.push o).objs.size = s.heap.objs.size + 1 := Heap.size_push ..
  show _ ∧ _
  rw [hz]
  have he : IsEnum ((s.heap.push o).push { cls := .type "enumerate", data := .fields #[.none, .bool false, .ref s.heap.objs.size, rawInt 0, .none, .none] }) (s.heap.objs.size + 1) s.heap.objs.size 0 .none := by
    have := Heap.get?_push_size (s.heap.push o) (o := { cls := .type "enumerate", data := .fields #[.none, .bool false, .ref s.heap.objs.size, rawInt 0, .none, .none] }) rfl
    rw [hz] at this
    exact this
  refine ⟨⟨_, he, rfl⟩, h _ he (Heap.get?_push_of_some _ (Heap.get?_push_size _ B.free)) (by rw [Heap.size_push, hz]) fun b o x => Heap.get?_push_of_some _ (Heap.get?_push_of_some _ x)⟩
end PySem
namespace Ev
open PySem PySem.Spec PyProof.Rows L2 RZ
def IteT (K : PySem.W.Frag) (a : Addr) : L2.It :=
  ⟨fun i H => ∃ (xs : List V) (x : V), SqT K H a xs ∧ xs[i]? = some x, fun i H v H' => ∃ T x, v = .ref T ∧ H T = none ∧ H' = upd H T (.tup [.int (i : Nat), x]) ∧ ∀ xs, SqT K H a xs → xs[i]? = some x, fun i H => ∃ xs : List V, SqT K H a xs ∧ xs.length ≤ i⟩
theorem turn_enumT {P : Program} {w : World} {K : PySem.W.Frag} {elts : List Expr} {kk : Nat} {tpos : Pos} (a e it : Addr) (hai : a ≠ it) (hea : e ≠ a) :
    Turn P w K (.Tuple elts kk tpos) (IteT K a) [e, it] e (fun i h => (∃ old, IsEnum h e it ((i : Nat) : Int) old) ∧ h.IsTupleIter it a i ∧ e ≠ it) where
  mem := by simp
  obj := fun i h st b hb => by
    obtain ⟨⟨old, he⟩, ⟨o, ho, hc, hd⟩, _⟩ := st
    have e' : b = e ∨ b = it := by simpa using hb
    rcases e' with z | z
    · rw [z]; exact ⟨_, he, fun v q => nomatch q⟩
    · rw [z]; exact ⟨o, ho, fun v q => by rw [hd] at q; cases q⟩
  keep := fun i h h' st k => let ⟨⟨old, he⟩, hi, hne⟩ := st; ⟨⟨old, k e (by simp) _ he⟩, hi.at fun o q => k it (by simp) o q, hne⟩
  item := by
    intro X hP hw hK hc i pins s σ H E I hf st hg
    subst hP hw hK
    obtain ⟨⟨old, he⟩, hit, hne⟩ := st
    obtain ⟨xs, x, hq, hx⟩ := hg
    obtain ⟨its, rv, p, hz⟩ := I.tuple hq
    obtain ⟨u, hu, ru⟩ := rv.get hx
    have hel : e < s.heap.objs.size := Heap.lt_size he
    have hil : it < s.heap.objs.size := by obtain ⟨_, q, _⟩ := hit; exact Heap.lt_size q
    have p' : s.heap.IsTuple a its.toArray := p
    have hlt : i < its.toArray.size := by
      have := (List.getElem?_eq_some_iff.mp hu).1
      simpa using this
    refine wpAny_pyNext_enum_itemD (Draws.tuple (A := X.A.in1) (I.ok.hd hc) it a hai its.toArray) he ⟨hit, p'⟩ hlt hne (by simp [hne, hea]) fun x' h' tk hP ho hst hT hsz hk => ?_
    obtain ⟨hit', _⟩ := hst
    have ex : x' = u := by
      have h1 : its.toArray[i]? = some u := by simpa using hu
      exact Option.some.inj (hP.symm.trans h1)
    subst ex
    refine ⟨_, rfl, wpAny_letOwnedTupleGo_enum (s := { s with heap := h', toks := tk + 1 }) ho fun h'' he' sb => ?_⟩
    have hT2 : h''.get? s.heap.objs.size = some { cls := .type "tuple", data := .seq #[.int i tk, x'] } := (sb.2 _ (Nat.ne_of_gt hel)).trans hT
    have new : ObjOk X.prog X.w (upd H s.heap.objs.size (.tup [.int (i : Nat), x])) h'' s.heap.objs.size (.tup [.int (i : Nat), x]) :=
      ⟨by show 2 ≤ sizeLine; decide, [.int i tk, x'], .cons ⟨_, rfl⟩ (.cons ru .nil), ⟨_, hT2, rfl, _, rfl⟩⟩
    have I1 : Inv X pins σ (upd H s.heap.objs.size (.tup [.int (i : Nat), x])) { s with heap := h'', toks := tk + 1 } :=
      I.turnedNew (ch := [e, it]) (fun b ob hb q => (sb.2 b (fun z => hb (by simp [z]))).trans (hk b ob (fun z => hb (by simp [z])) (fun z => hb (by simp [z])) q)) hf (Nat.le_refl _) new
    refine ⟨.ref s.heap.objs.size, _, I1, rfl, ⟨_, x, rfl, I.hok.fresh (Nat.le_refl _), rfl, fun ys hy => by rw [I.tuple_inj hy hq]; exact hx⟩, ⟨⟨x', ?_⟩, hit'.at fun o q => (sb.2 it (Ne.symm hne)).trans q, hne⟩, fun b hb => ?_⟩
    · have e1 : ((i + 1 : Nat) : Int) = (i : Int) + 1 := by omega
      rw [e1]; exact he'
    · have hb' : b < s.heap.objs.size := by
        have e' : b = e ∨ b = it := by simpa using hb
        rcases e' with z | z
        · rw [z]; exact hel
        · rw [z]; exact hil
      rw [upd_ne (Nat.ne_of_lt hb')]
      exact (hf b hb).1
  done := by
    intro X hP hw hK hc i pins s σ H E I hf st hg
    subst hP hw hK
    obtain ⟨⟨old, he⟩, hit, hne⟩ := st
    obtain ⟨xs, hq, hx⟩ := hg
    obtain ⟨its, rv, p, hz⟩ := I.tuple hq
    obtain ⟨f0, f1, f2, f3, f4, f5⟩ := hf it (by simp)
    have hl := rv.length
    have p' : s.heap.IsTuple a its.toArray := p
    have D0 : Draws X.prog X.w X.A.in1 it [it, a] i (fun j v => its.toArray[j]? = some v) (fun j h => h.IsTupleIter it a j ∧ h.IsTuple a its.toArray ∧ j = i) :=
      { live := fun _ _ st => let ⟨o, ho, _⟩ := st.1; ⟨o, ho⟩
        frame := fun _ _ _ st hk => ⟨st.1.at fun o e => hk it (by simp) o e, st.2.1.at fun o e => hk a (by simp) o e, st.2.2⟩
        item := fun j s Q E hj st hQ => absurd st.2.2 (Nat.ne_of_lt hj)
        done := fun s Q E st hE => wpAny_nextOf_tuple_end (I.ok.hd hc) st.1 st.2.1 (by simp; omega) hE }
    exact wpAny_pyNext_enum_endD D0 he ⟨hit, p', rfl⟩ fun h' eb => ⟨rfl, I.turned (t' := s.toks) (fun b o hb q => eb b o hb q) f0 f1 f3 f4 f5⟩
  self := fun A i s Q E st h => let ⟨⟨_, he⟩, _⟩ := st; wpAny_pyIter_enum he h
def iEnumT (K : PySem.W.Frag) (ta : TA) : TI := fun σ H R => ta σ H fun vs H1 => ∃ a xs, vs = [.ref a] ∧ SqT K H1 a xs ∧ R (IteT K a) H1
theorem pi_enumT {X : Cx} {e : Expr} {ta : TA} {p pos tpos : Pos} {elts : List Expr} {kk : Nat} (hg : Gl X "enumerate") (hm : X.mg "enumerate" = none) (ha : PA X [e] ta) (hs : starEach [e] X.env = [(false, eval e X.env)]) :
    PI X (.Tuple elts kk tpos) (.Call (.Name "enumerate" p) [e] [] pos) (iEnumT X.K ta) := by
  refine ⟨fun pins s σ H R I h => ?_⟩
  refine Call_ (ld_blt I hg hm boot_enumerate (PyProof.Rows.callWith_type1 (thn (ha.run pos pins s σ H _ I h) fun us s1 ⟨vs, H1, I1, r1, q1⟩ => ?_) hs rfl))
  obtain ⟨a, xs, ex, hq, q⟩ := q1
  subst ex
  cases r1 with
  | cons r rr =>
    cases rr
    cases r
    obtain ⟨its, rv, p', hz⟩ := I1.tuple hq
    have p2 : s1.heap.IsTuple a its.toArray := p'
    have hal : a < s1.heap.objs.size := by
      obtain ⟨o, ho, _⟩ := p2
      exact Heap.lt_size ho
    refine enum_begins1 (begins_tuple a its.toArray) p2 fun h' he hit hsz hk => wpAny_pyIter_enum he ?_
    have I2 : Inv X pins σ H1 { s1 with heap := h' } := I1.kept (t' := s1.toks) hk
    refine ⟨s1.heap.objs.size + 1, [s1.heap.objs.size + 1, s1.heap.objs.size], _, _, H1, rfl, I2, turn_enumT a (s1.heap.objs.size + 1) s1.heap.objs.size (Nat.ne_of_lt hal) (Nat.ne_of_gt (Nat.lt_succ_of_lt hal)), ⟨⟨.none, he⟩, ⟨_, hit, rfl, rfl⟩, Nat.succ_ne_self _⟩, fun b hb => ?_, q⟩
    have e' : b = s1.heap.objs.size + 1 ∨ b = s1.heap.objs.size := by simpa using hb
    have hle : s1.heap.objs.size ≤ b := by
      rcases e' with z | z
      · rw [z]; exact Nat.le_add_right _ _
      · rw [z]; exact Nat.le_refl _
    exact I1.fpOk hle (I1.hok.fresh hle)
def enumD (xs : List D) : List D := (List.range xs.length).zipWith (fun (k : Nat) (x : D) => .tuple [.int k, x]) xs
theorem enum_at {xs : List D} {i : Nat} {d : D} (h : (enumD xs)[i]? = some d) : ∃ x, xs[i]? = some x ∧ d = .tuple [.int i, x] := by
  unfold enumD at h
  rw [List.getElem?_zipWith] at h
  cases e : xs[i]? with
  | none =>
    rw [e] at h
    split at h <;> first | cases h | skip
    rename_i h2
    cases h2
  | some x =>
    have hi := (List.getElem?_eq_some_iff.mp e).1
    rw [e, List.getElem?_range hi] at h
    cases h
    exact ⟨x, rfl, rfl⟩
theorem wk_enum {K : PySem.W.Frag} {N : Addr → Prop} {al : List Addr} {fz : Addr → Prop} {H : Hp} {st : List Ob} {a : Addr} {xs : List D} {g : Option Nat} (hz : xs.length ≤ sizeLine)
    (h1 : ∀ al2 st2 H2 fz2, GoS N al fz H al2 fz2 H2 → Ok K al2 fz2 st2 H2 → same g st st2 → ∃ zs, SqT K H2 a zs ∧ Rps K H2 fz2 zs xs) : Wk K N al fz H st (IteT K a) (enumD xs) g := by
  have hl : (enumD xs).length = xs.length := by simp [enumD]
  refine ⟨by rw [hl]; exact hz, fun H => ∃ us, SqT K H a us ∧ us.length = xs.length, fun i H v H' => ∃ T x, v = .ref T ∧ H T = none ∧ H' = upd H T (.tup [.int (i : Nat), x]) ∧ ∀ xs, SqT K H a xs → xs[i]? = some x, ?_, ?_⟩
  · rw [hl]
    exact ⟨fun i H hi ⟨us, q1, e1⟩ => ⟨us, us[i]'(by omega), q1, by simp [e1, hi]⟩, fun H ⟨us, q1, e1⟩ => ⟨us, q1, by omega⟩, fun _ _ _ _ _ _ y => y⟩
  · intro al2 st2 H2 fz2 gx ok sm
    obtain ⟨us, q1, r1⟩ := h1 al2 st2 H2 fz2 gx ok sm
    refine ⟨⟨us, q1, r1.len⟩, fun i d x H3 hd y => ?_⟩
    obtain ⟨T, x, rfl, hT, rfl, e1⟩ := y
    obtain ⟨dx, f1, rfl⟩ := enum_at hd
    obtain ⟨v1, g1, p1⟩ := r1.at f1
    have := (e1 us q1).symm.trans g1
    cases this
    exact pair_ok ok hT (.int _) p1 rfl
section
variable {X : Cx} {cl : Nat → Value} {Φ : Calls} {W : WX} {a b c : Expr} {ea eb : E} {pos : Pos}
theorem enum_v {σ : L2.St} {H : Hp} {R : L2.It → Hp → Prop} (h : tI X.K cl Φ W (.enum ea) σ H R) : iEnumT X.K (tCons (tE X.K cl Φ W ea) tNil) σ H R := by
  obtain ⟨al, fz, st, env, ok, eo, h⟩ := h
  unfold evI at h
  refine tE.mk ok eo (Dn.bind h) fun r st' v H1 fz1 p g ok1 eo1 rr fr => ?_
  split at p
  · obtain ⟨a, ys, rfl, h1, h2, h3⟩ := rp_tup rr
    exact ⟨a, ys, rfl, .inl h1.rd, (show PostI X.K al fz H (enumD _, none) st' R from p) H1 fz1 _ g ok1 fun N hN => wk_enum (by rw [← h3.len]; exact h2) fun al2 st2 H2 fz2 gx ok2 _ => ⟨ys, .inl (h1.kp (ok1.kpS (hN.go g) gx)).rd, h3.kp (ok1.kpS (hN.go g) gx)⟩⟩
  · exact p.elim
theorem i_enum {p tpos : Pos} {elts : List Expr} {kk : Nat} (hg : Gl X "enumerate") (hm : X.mg "enumerate" = none) (ha : PE X a (tE X.K cl Φ W ea)) (hs : starEach [a] X.env = [(false, eval a X.env)]) :
    PI X (.Tuple elts kk tpos) (.Call (.Name "enumerate" p) [a] [] pos) (tI X.K cl Φ W (.enum ea)) := (pi_enumT hg hm (pa_cons ha pa_nil hs) hs).imp fun _ _ _ h => enum_v h
end
end Ev

/-! Ev16c: sorted -/
namespace Ev
open PySem PySem.Spec PyProof.Rows L2 RZ
/-! ### a total order of codes -/
def ltL : List Int → List Int → Bool
  | [], [] => false
  | [], _ :: _ => true
  | _ :: _, [] => false
  | x :: xs, y :: ys => if x = y then ltL xs ys else decide (x < y)
theorem ltL_asym : ∀ a b : List Int, ltL a b = true → ltL b a = false
  | [], [], h => by cases h
  | [], _ :: _, _ => rfl
  | _ :: _, [], h => by cases h
  | x :: xs, y :: ys, h => by
    unfold ltL at h ⊢
    by_cases e : x = y
    · subst e
      rw [if_pos rfl] at h ⊢
      exact ltL_asym xs ys h
    · rw [if_neg e] at h
      rw [if_neg (Ne.symm e)]
      have := of_decide_eq_true h
      exact decide_eq_false (by omega)
theorem ltL_tr : ∀ a b c : List Int, ltL b a = false → ltL c b = false → ltL c a = false
  | [], [], _, _, h => h
  | [], _ :: _, [], _, _ => rfl
  | [], y :: ys, z :: zs, h, h2 => rfl
  | x :: xs, [], c, h, h2 => by cases h
  | x :: xs, y :: ys, [], h, h2 => by cases h2
  | x :: xs, y :: ys, z :: zs, h, h2 => by
    unfold ltL at h h2 ⊢
    by_cases e1 : y = x
    · subst e1
      rw [if_pos rfl] at h
      by_cases e2 : z = y
      · subst e2
        rw [if_pos rfl] at h2 ⊢
        exact ltL_tr xs ys zs h h2
      · rw [if_neg e2] at h2 ⊢
        exact h2
    · rw [if_neg e1] at h
      have h := of_decide_eq_false h
      by_cases e2 : z = y
      · subst e2
        rw [if_neg e1]
        exact decide_eq_false h
      · rw [if_neg e2] at h2
        have h2 := of_decide_eq_false h2
        rw [if_neg (by omega)]
        exact decide_eq_false (by omega)
theorem ltL_cons (x y : Int) (xs ys : List Int) : ltL (x :: xs) (y :: ys) = if x = y then ltL xs ys else decide (x < y) := by rw [ltL]
mutual
/-- a code of a datum: its order is the data's -/
def enc : D → List Int
  | .int i => [i]
  | .str x => x.cps.toList.map (fun (c : Nat) => (c : Int) + 1) ++ [0]
  | .tuple xs => encAll xs
  | _ => []
def encAll : List D → List Int
  | [] => [0]
  | x :: xs => 1 :: (enc x ++ encAll xs)
end
theorem enc_chars : ∀ (xs ys : List Nat) (r r' : List Int), ltL (xs.map (fun (c : Nat) => (c : Int) + 1) ++ [0] ++ r) (ys.map (fun (c : Nat) => (c : Int) + 1) ++ [0] ++ r') = if xs = ys then ltL r r' else decide (xs < ys)
  | [], [], r, r' => by simp [ltL]
  | [], y :: ys, r, r' => by
    have : ¬ ((0 : Int) = (y : Int) + 1) := by omega
    simp [ltL, this]
    try omega
  | x :: xs, [], r, r' => by
    have : ¬ ((x : Int) + 1 = 0) := by omega
    simp [ltL, this]
    omega
  | x :: xs, y :: ys, r, r' => by
    have ih := enc_chars xs ys r r'
    simp only [List.map_cons, List.cons_append] at ih ⊢
    rw [ltL_cons]
    by_cases e : x = y
    · subst e
      rw [if_pos rfl, ih]
      simp
    · have e2 : ¬ ((x : Int) + 1 = (y : Int) + 1) := by omega
      rw [if_neg e2, if_neg (by simp [e])]
      have e3 : (x :: xs < y :: ys) ↔ x < y := by
        rw [List.cons_lt_cons_iff]
        constructor
        · rintro (h | ⟨h, _⟩)
          · exact h
          · exact absurd h e
        · exact .inl
      by_cases c : x < y
      · rw [decide_eq_true (by omega), decide_eq_true (e3.mpr c)]
      · rw [decide_eq_false (by omega), decide_eq_false (fun z => c (e3.mp z))]
mutual
theorem enc_lt : ∀ (d e : D), cmpOk d e = true → ∀ r r', ltL (enc d ++ r) (enc e ++ r') = if PyData.eqv d e = true then ltL r r' else ltD d e
  | .int i, e, h, r, r' => by
    cases e <;> first | (cases h; done) | skip
    rename_i j
    show (if i = j then ltL r r' else decide (i < j)) = if (i == j) = true then ltL r r' else decide (i < j)
    by_cases c : i = j
    · rw [if_pos c, if_pos (by simpa using c)]
    · rw [if_neg c, if_neg (by simpa using c)]
  | .str x, e, h, r, r' => by
    cases e <;> first | (cases h; done) | skip
    rename_i y
    show ltL (x.cps.toList.map (fun (c : Nat) => (c : Int) + 1) ++ [0] ++ r) (y.cps.toList.map (fun (c : Nat) => (c : Int) + 1) ++ [0] ++ r') = if (x == y) = true then ltL r r' else decide (x.cps.toList < y.cps.toList)
    rw [enc_chars]
    by_cases c : x = y
    · rw [if_pos (by rw [c]), if_pos (by simpa using c)]
    · rw [if_neg (fun z => c (by
        obtain ⟨x⟩ := x
        obtain ⟨y⟩ := y
        exact congrArg Str.mk (Array.ext' z))), if_neg (by simpa using c)]
  | .tuple xs, e, h, r, r' => by
    cases e <;> first | (cases h; done) | skip
    rename_i ys
    exact enc_ltAll xs ys h r r'
  | .none, e, h, r, r' => by cases e <;> cases h
  | .bool _, e, h, r, r' => by cases e <;> cases h
  | .list _, e, h, r, r' => by cases e <;> cases h
  | .dict _, e, h, r, r' => by cases e <;> cases h
theorem enc_ltAll : ∀ (xs ys : List D), cmpAll xs ys = true → ∀ r r', ltL (encAll xs ++ r) (encAll ys ++ r') = if PyData.eqvAll xs ys = true then ltL r r' else ltAll xs ys
  | [], [], h, r, r' => by simp [encAll, ltL, PyData.eqvAll]
  | [], y :: ys, h, r, r' => by simp [encAll, ltL, PyData.eqvAll, ltAll]
  | x :: xs, [], h, r, r' => by simp [encAll, ltL, PyData.eqvAll, ltAll]
  | x :: xs, y :: ys, h, r, r' => by
    rw [cmpAll, Bool.and_eq_true] at h
    have h1 := enc_lt x y h.1 (encAll xs ++ r) (encAll ys ++ r')
    have h2 := enc_ltAll xs ys h.2 r r'
    show ltL (1 :: (enc x ++ encAll xs ++ r)) (1 :: (enc y ++ encAll ys ++ r')) = _
    rw [ltL_cons, if_pos rfl, List.append_assoc, List.append_assoc, h1, PyData.eqvAll, ltAll]
    cases PyData.eqv x y with
    | true => simpa using h2
    | false => simp
end
mutual
theorem eqv_nlt : ∀ (d e : D), PyData.eqv d e = true → ltD d e = false
  | .int i, e, h => by
    cases e <;> first | rfl | skip
    rename_i j
    have : i = j := by simpa [PyData.eqv] using h
    subst this
    exact decide_eq_false (Int.lt_irrefl _)
  | .str x, e, h => by
    cases e <;> first | rfl | skip
    rename_i y
    have : x = y := by simpa [PyData.eqv] using h
    subst this
    exact decide_eq_false (List.lt_irrefl _)
  | .tuple xs, e, h => by
    cases e <;> first | rfl | skip
    rename_i ys
    exact eqv_nltAll xs ys h
  | .none, e, h => by cases e <;> rfl
  | .bool _, e, h => by cases e <;> rfl
  | .list _, e, h => by cases e <;> rfl
  | .dict _, e, h => by cases e <;> rfl
theorem eqv_nltAll : ∀ (xs ys : List D), PyData.eqvAll xs ys = true → ltAll xs ys = false
  | [], [], h => by simp [ltAll]
  | [], y :: ys, h => by simp [PyData.eqvAll] at h
  | x :: xs, [], h => by simp [ltAll]
  | x :: xs, y :: ys, h => by
    rw [PyData.eqvAll, Bool.and_eq_true] at h
    rw [ltAll, if_pos h.1]
    exact eqv_nltAll xs ys h.2
end
theorem enc_ok {d e : D} (h : cmpOk d e = true) : ltL (enc d) (enc e) = ltD d e := by
  have := enc_lt d e h [] []
  rw [List.append_nil, List.append_nil] at this
  rw [this]
  cases c : PyData.eqv d e with
  | true => rw [if_pos rfl, eqv_nlt d e c]; rfl
  | false => rw [if_neg (by decide)]
theorem enc_ltLz : ∀ (xs ys : List D), cmpLz xs ys = true → ∀ r r', ltL (encAll xs ++ r) (encAll ys ++ r') = if PyData.eqvAll xs ys = true then ltL r r' else ltAll xs ys
  | [], [], h, r, r' => by simp [encAll, ltL, PyData.eqvAll]
  | [], y :: ys, h, r, r' => by simp [encAll, ltL, PyData.eqvAll, ltAll]
  | x :: xs, [], h, r, r' => by simp [encAll, ltL, PyData.eqvAll, ltAll]
  | x :: xs, y :: ys, h, r, r' => by
    rw [cmpLz, Bool.and_eq_true] at h
    have h1 := enc_lt x y h.1 (encAll xs ++ r) (encAll ys ++ r')
    show ltL (1 :: (enc x ++ encAll xs ++ r)) (1 :: (enc y ++ encAll ys ++ r')) = _
    rw [ltL_cons, if_pos rfl, List.append_assoc, List.append_assoc, h1, PyData.eqvAll, ltAll]
    cases e : PyData.eqv x y with
    | true =>
      have h2 := enc_ltLz xs ys (by simpa [e] using h.2) r r'
      simpa using h2
    | false => simp
theorem enc_okP {d e : D} (h : cmpPr d e = true) : ltL (enc d) (enc e) = ltD d e := by
  cases d with
  | tuple xs => cases e with
    | tuple ys =>
      have := enc_ltLz xs ys h [] []
      rw [List.append_nil, List.append_nil] at this
      show ltL (encAll xs) (encAll ys) = ltAll xs ys
      rw [this]
      cases c : PyData.eqvAll xs ys with
      | true => rw [if_pos rfl, eqv_nltAll xs ys c]; rfl
      | false => rw [if_neg (by decide)]
    | _ => cases h
  | _ => exact enc_ok h
/-! ### sorting by a key -/
section
variable {α β : Type} (key : α → List Int)
def insK (x : α) : List α → List α
  | [] => [x]
  | y :: ys => if ltL (key y) (key x) then y :: insK x ys else x :: y :: ys
def sortK : List α → List α
  | [] => []
  | x :: xs => insK key x (sortK xs)
variable {key}
theorem insK_perm (x : α) : ∀ l : List α, (insK key x l).Perm (x :: l)
  | [] => List.Perm.refl _
  | y :: ys => by
    unfold insK
    split
    · exact (List.Perm.cons y (insK_perm x ys)).trans (List.Perm.swap _ _ _)
    · exact List.Perm.refl _
theorem sortK_perm : ∀ l : List α, (sortK key l).Perm l
  | [] => List.Perm.refl _
  | x :: xs => (insK_perm x _).trans (List.Perm.cons x (sortK_perm xs))
def eqK (c : List Int) (x : α) : Bool := !ltL c (key x) && !ltL (key x) c
theorem insK_cls (c : List Int) (x : α) : ∀ l : List α, (insK key x l).filter (eqK (key := key) c) = (x :: l).filter (eqK (key := key) c)
  | [] => rfl
  | y :: ys => by
    unfold insK
    split
    · rename_i h
      rw [List.filter_cons, insK_cls c x ys, List.filter_cons, List.filter_cons, List.filter_cons]
      by_cases h1 : eqK (key := key) c x = true
      · by_cases h2 : eqK (key := key) c y = true
        · unfold eqK at h1 h2
          simp only [Bool.and_eq_true, Bool.not_eq_true'] at h1 h2
          have := ltL_tr _ _ _ h1.1 h2.2
          rw [h] at this
          cases this
        · rw [if_neg h2, if_neg h2]
      · rw [if_neg h1, if_neg h1]
    · rfl
theorem sortK_cls (c : List Int) : ∀ l : List α, (sortK key l).filter (eqK (key := key) c) = l.filter (eqK (key := key) c)
  | [] => rfl
  | x :: xs => by
    unfold sortK
    rw [insK_cls, List.filter_cons, List.filter_cons, sortK_cls c xs]
theorem insK_srt (x : α) : ∀ l : List α, l.Pairwise (fun a b => ltL (key b) (key a) = false) → (insK key x l).Pairwise (fun a b => ltL (key b) (key a) = false)
  | [], _ => List.pairwise_singleton _ _
  | y :: ys, h => by
    obtain ⟨h1, h2⟩ := List.pairwise_cons.mp h
    unfold insK
    split
    · rename_i c
      refine List.pairwise_cons.mpr ⟨fun z hz => ?_, insK_srt x ys h2⟩
      rcases List.mem_cons.mp ((insK_perm x ys).mem_iff.mp hz) with rfl | hz
      · exact ltL_asym _ _ c
      · exact h1 z hz
    · rename_i c
      have c : ltL (key y) (key x) = false := by simpa using c
      refine List.pairwise_cons.mpr ⟨fun z hz => ?_, h⟩
      rcases List.mem_cons.mp hz with rfl | hz
      · exact c
      · exact ltL_tr _ _ _ c (h1 z hz)
theorem sortK_srt : ∀ l : List α, (sortK key l).Pairwise (fun a b => ltL (key b) (key a) = false)
  | [] => List.Pairwise.nil
  | x :: xs => insK_srt x _ (sortK_srt xs)
theorem insK_map (f : β → α) (x : β) : ∀ l : List β, (insK (fun b => key (f b)) x l).map f = insK key (f x) (l.map f)
  | [] => rfl
  | y :: ys => by
    unfold insK
    rw [List.map_cons]
    dsimp only
    split
    · rw [List.map_cons, insK_map f x ys]
    · rfl
theorem sortK_map (f : β → α) : ∀ l : List β, (sortK (fun b => key (f b)) l).map f = sortK key (l.map f)
  | [] => rfl
  | x :: xs => by
    unfold sortK
    rw [insK_map, sortK_map f xs]
    rfl
end
theorem insD_K (x : D) : ∀ l : List D, (∀ y ∈ l, cmpPr y x = true) → insD x l = insK enc x l
  | [], _ => rfl
  | y :: ys, h => by
    unfold insD insK
    rw [enc_okP (h y List.mem_cons_self), insD_K x ys fun z hz => h z (List.mem_cons_of_mem _ hz)]
theorem sortD_K : ∀ l : List D, (∀ x ∈ l, ∀ y ∈ l, cmpPr x y = true) → sortD l = sortK enc l
  | [], _ => rfl
  | x :: xs, h => by
    unfold sortD sortK
    rw [sortD_K xs fun a ha b hb => h a (List.mem_cons_of_mem _ ha) b (List.mem_cons_of_mem _ hb)]
    exact insD_K x _ fun y hy => h y (List.mem_cons_of_mem _ ((sortK_perm xs).mem_iff.mp hy)) x List.mem_cons_self
end Ev

/-! Ev16d: sorted, the rule -/
namespace Ev
open PySem PySem.Spec PyProof.Rows L2 RZ
/-- one item of a sorted list: the machine's value, the layer's, the datum -/
abbrev Tr := Value × V × D
noncomputable def ltv (h : Heap) (v u : Value) : Bool := ltL (enc (SeqAt.readOf h v)) (enc (SeqAt.readOf h u))
theorem swo_ltv (h : Heap) : SrtO.Swo (ltv h) := ⟨fun _ _ => ltL_asym _ _, fun _ _ _ => ltL_tr _ _ _⟩
theorem triples {K : PySem.W.Frag} {H : Hp} {fz : Addr → Prop} {h : Heap} : ∀ {us : List Value} {xs : List V} {ds : List D} {as : List Addr}, Vals xs us → Rps K H fz xs ds → ReadsAll h us ds as →
    ∃ T : List Tr, T.map (·.1) = us ∧ T.map (·.2.1) = xs ∧ T.map (·.2.2) = ds ∧ ∀ t ∈ T, L2.RelV t.2.1 t.1 ∧ Rp K H fz t.2.1 t.2.2 ∧ ∃ bs, Reads h t.1 t.2.2 bs
  | [], _, _, _, .nil, h2, h3 => by
    cases h2
    exact ⟨[], rfl, rfl, rfl, fun t m => by cases m⟩
  | u :: us, _, _, _, .cons r1 h1, h2, h3 => by
    cases h2 with
    | cons r2 h2 =>
      cases h3 with
      | cons r3 h3 =>
        obtain ⟨T, e1, e2, e3, a⟩ := triples h1 h2 h3
        refine ⟨(u, _, _) :: T, by rw [List.map_cons, e1], by rw [List.map_cons, e2], by rw [List.map_cons, e3], fun t m => ?_⟩
        rcases List.mem_cons.mp m with rfl | m
        · exact ⟨r1, r2, _, r3⟩
        · exact a t m
section
variable {P : Program} {w : World} {A : Around} {s : Shared}
theorem dec_succ (a b : Nat) : decide (a + 1 < b + 1) = decide (a < b) := by
  by_cases z : a < b
  · rw [decide_eq_true z, decide_eq_true (by omega)]
  · rw [decide_eq_false z, decide_eq_false (by omega)]
/-- lexical comparison of the items, as the sort does it -/
theorem kat_data {b : Bool} {Q : Bool → Shared → Prop} (hu : A.units + 160 < cLine) : ∀ (xs ys : List D) (vs us : List Value) (as bs : List Addr) (i : Nat), ReadsAll s.heap vs xs as → ReadsAll s.heap us ys bs → cmpLz xs ys = true → PyData.canLayAll0 xs = true → PyData.canLayAll0 ys = true → PyData.depthAll xs ≤ 150 →
    (b = true → i = 0 → ∀ x y, xs.head? = some x → ys.head? = some y → (isStr x = true ∧ isStr y = true) ∨ (isInt x = true ∧ isInt y = true)) → ∀ fin, (fin = decide (vs.length < us.length)) → Q (ltAll xs ys) s → PySem.W.KatLex P w A b fin Q (vs.zip us) i s
  | [], [], _, _, _, _, i, .nil, .nil, c, l1, l2, hd, hb, fin, hf, q => by
    subst hf
    exact PySem.W.kat_nil (by simpa [ltAll] using q)
  | [], y :: ys, _, _, _, _, i, .nil, .cons r2 t2, c, l1, l2, hd, hb, fin, hf, q => by
    subst hf
    exact PySem.W.kat_nil (by simpa [ltAll] using q)
  | x :: xs, [], _, _, _, _, i, .cons r1 t1, .nil, c, l1, l2, hd, hb, fin, hf, q => by
    subst hf
    exact PySem.W.kat_nil (by simpa [ltAll] using q)
  | x :: xs, y :: ys, _, _, _, _, i, .cons r1 t1, .cons r2 t2, c, l1, l2, hd, hb, fin, hf, q => by
    rw [cmpLz, Bool.and_eq_true] at c
    rw [PyData.canLayAll0, Bool.and_eq_true] at l1 l2
    rw [PyData.depthAll] at hd
    rw [ltAll] at q
    refine PySem.W.kat_cons (SeqAt.eqAt_reads x y A s _ _ _ _ r1 r2 l1.1 l2.1 (by omega) P w _ _ ?_)
    refine PySem.W.kat_go (fun e => PySem.W.kat_yes ?_) (fun e => PySem.W.kat_no ?_)
    · rw [e, if_pos rfl] at q
      exact kat_data hu xs ys _ _ _ _ (i + 1) t1 t2 (by simpa [e] using c.2) l1.2 l2.2 (by omega) (fun _ h => by omega) fin (by
        rw [hf, List.length_cons, List.length_cons]
        exact dec_succ _ _) q
    · rw [e, if_neg (by decide)] at q
      by_cases z : (b && i == 0) = true
      · rw [z]
        simp only [Bool.and_eq_true, beq_iff_eq] at z
        rcases hb z.1 z.2 x y rfl rfl with ⟨h1, h2⟩ | ⟨h1, h2⟩
        · cases x <;> first | (cases h1; done) | skip
          cases y <;> first | (cases h2; done) | skip
          cases r1
          cases r2
          exact oneLt_str q
        · cases x <;> first | (cases h1; done) | skip
          cases y <;> first | (cases h2; done) | skip
          cases r1
          cases r2
          exact oneLt_int q
      · have z : (b && i == 0) = false := by simpa using z
        rw [z]
        exact PySem.W.kat_one _ _ (lt_reads x y A s _ _ _ _ r1 r2 c.1 l1.1 l2.1 (by omega) P w _ _ q)
theorem cmp_str {d e : D} (h : cmpOk d e = true) (h1 : isStr d = true) : isStr e = true := by
  cases d <;> first | (cases h1; done) | skip
  cases e <;> first | (cases h; done) | rfl
theorem cmp_int {d e : D} (h : cmpOk d e = true) (h1 : isInt d = true) : isInt e = true := by
  cases d <;> first | (cases h1; done) | skip
  cases e <;> first | (cases h; done) | rfl
theorem cmp_tup {d e : D} (h : cmpOk d e = true) (h1 : isTup d = true) : isTup e = true := by
  cases d <;> first | (cases h1; done) | skip
  cases e <;> first | (cases h; done) | rfl
/-- the type's name -/
def tn : D → String
  | .int _ => "int"
  | .str _ => "str"
  | _ => "tuple"
theorem looks_tn {M : Model} {h : Heap} {v : Value} {d : D} {as : List Addr} (r : Reads h v d as) (hd : isStr d = true ∨ isInt d = true ∨ isTup d = true) : PySem.W.Looks M h (typeOf v) (.type (tn d)) := by
  cases d with
  | str x => cases r; exact PySem.W.Looks.now
  | int i => cases r; exact PySem.W.Looks.now
  | tuple xs =>
    cases r with
    | tuple a1 a2 a3 a4 =>
      have : PySem.W.Looks M h (typeOf (.ref _)) _ := (PySem.W.Looks.ld a1).andThen .now
      rw [a2] at this
      exact this
  | _ => rcases hd with h | h | h <;> cases h
/-- the tuples' first items -/
theorem firsts {h : Heap} : ∀ {vs : List Value} {ds : List D} {as : List Addr}, ReadsAll h vs ds as → (∀ d ∈ ds, isTup1 d = true) → ∃ (fs : List Value) (es : List D), PySem.W.KatTups h vs fs ∧ fs.length = vs.length ∧ (∀ f ∈ fs, ∃ e ∈ es, ∃ bs, Reads h f e bs) ∧ ∀ e ∈ es, ∃ r, PyData.tuple (e :: r) ∈ ds
  | _, _, _, .nil, _ => ⟨[], [], trivial, rfl, fun f m => (by cases m), fun e m => (by cases m)⟩
  | v :: vs, d :: ds, _, .cons r t, a => by
    obtain ⟨fs, es, h1, h2, h3, h4⟩ := firsts t fun x m => a x (List.mem_cons_of_mem _ m)
    have hd := a d List.mem_cons_self
    cases d with
    | tuple xs =>
      cases xs with
      | nil => cases hd
      | cons x xs =>
        cases r with
        | @tuple ad o us n _ _ a1 a2 a3 a4 =>
          obtain ⟨u, us', eu⟩ : ∃ u us', us.toList = u :: us' := by
            cases e : us.toList with
            | nil =>
              rw [e] at a4
              cases a4
            | cons u us' => exact ⟨u, us', rfl⟩
          rw [eu] at a4
          cases a4 with
          | cons r1 r2 =>
            have hu : us[0]? = some u := by
              have : us.toList[0]? = some u := by rw [eu]; rfl
              simpa using this
            refine ⟨u :: fs, x :: es, PySem.W.KatTups.cons a1 a2 a3 hu h1, congrArg Nat.succ h2, fun f m => ?_, fun e m => ?_⟩
            · rcases List.mem_cons.mp m with rfl | m
              · exact ⟨x, List.mem_cons_self, _, r1⟩
              · obtain ⟨e, he, q⟩ := h3 f m
                exact ⟨e, List.mem_cons_of_mem _ he, q⟩
            · rcases List.mem_cons.mp m with rfl | m
              · exact ⟨xs, List.mem_cons_self⟩
              · obtain ⟨r, q⟩ := h4 e m
                exact ⟨r, List.mem_cons_of_mem _ q⟩
    | _ => cases hd
theorem pairs_at {ds : List D} (h : pairsOk ds = true) : ∀ x ∈ ds, ∀ y ∈ ds, cmpPr x y = true := fun x hx y hy => by
  unfold pairsOk at h
  rw [List.all_eq_true] at h
  have := h x hx
  rw [List.all_eq_true] at this
  exact this y hy
theorem mem_read {h : Heap} {vs : List Value} {ds : List D} {as : List Addr} {v : Value} (r : ReadsAll h vs ds as) (m : v ∈ vs) : ∃ d ∈ ds, ∃ bs, Reads h v d bs := by
  obtain ⟨i, hi, e⟩ := List.mem_iff_getElem.mp m
  obtain ⟨d, bs, e2, q⟩ := readsAll_at (j := i) r (by rw [List.getElem?_eq_getElem hi, e])
  exact ⟨d, List.mem_of_getElem? e2, bs, q⟩
theorem mem_lay {ds : List D} {d : D} (h : PyData.canLayAll0 ds = true) (m : d ∈ ds) : d.canLay0 = true := by
  obtain ⟨i, hi, e⟩ := List.mem_iff_getElem.mp m
  exact layAll_at (j := i) h (by rw [List.getElem?_eq_getElem hi, e])
theorem mem_depth {ds : List D} {d : D} (m : d ∈ ds) : d.depth ≤ PyData.depthAll ds := by
  obtain ⟨i, hi, e⟩ := List.mem_iff_getElem.mp m
  exact depthAll_at (j := i) (by rw [List.getElem?_eq_getElem hi, e])
/-- any two items compare as their codes do -/
theorem sortable {h0 : Heap} {a : Addr} {vs : List Value} {ds : List D} {as : List Addr} (r : ReadsAll s.heap vs ds as) (lay : PyData.canLayAll0 ds = true) (h : sortOk ds = true) (h2 : 2 ≤ vs.length) (hu : A.units + 160 < cLine) (hr : ∀ v d bs, v ∈ vs → d ∈ ds → Reads s.heap v d bs → SeqAt.readOf h0 v = d)
    (hk : ∀ (h' : Heap), (∀ b o, b ≠ a → s.heap.get? b = some o → h'.get? b = some o) → ∀ v d bs, v ∈ vs → d ∈ ds → Reads s.heap v d bs → ∃ cs, Reads h' v d cs) : SrtO.SortableO P w A s a vs (ltv h0) := by
  intro h' keep
  unfold sortOk at h
  simp only [Bool.and_eq_true, decide_eq_true_eq, Bool.or_eq_true] at h
  obtain ⟨⟨hp, hd⟩, hk3⟩ := h
  have pr := pairs_at hp
  have lt_of : ∀ {p q : Value}, p ∈ vs → q ∈ vs → ∃ d e bs cs, d ∈ ds ∧ e ∈ ds ∧ Reads h' p d bs ∧ Reads h' q e cs ∧ ltv h0 p q = ltD d e := fun {p q} hp hq => by
    obtain ⟨d, hd, bs, r1⟩ := mem_read r hp
    obtain ⟨e, he, cs, r2⟩ := mem_read r hq
    obtain ⟨bs', r1'⟩ := hk h' keep _ _ _ hp hd r1
    obtain ⟨cs', r2'⟩ := hk h' keep _ _ _ hq he r2
    refine ⟨d, e, bs', cs', hd, he, r1', r2', ?_⟩
    unfold ltv
    rw [hr _ _ _ hp hd r1, hr _ _ _ hq he r2]
    exact enc_okP (pr d hd e he)
  have rd : ∀ v ∈ vs, ∃ d ∈ ds, ∃ bs, Reads h' v d bs := fun v m => by
    obtain ⟨d, hd, bs, r1⟩ := mem_read r m
    exact ⟨d, hd, hk h' keep _ _ _ m hd r1⟩
  rcases hk3 with (hs | hi) | ht
  · rw [List.all_eq_true] at hs
    refine ⟨oneType', fun Q E q => PySem.W.kas_kind (T := .type "str") h2 (fun v m => ?_) (by decide +kernel) (by decide +kernel) q, fun p q mp mq => ?_⟩
    · obtain ⟨d, hd, bs, r1⟩ := rd v m
      have := hs d hd
      have l := looks_tn (M := model P w) r1 (.inl this)
      cases d <;> first | (cases this; done) | exact l
    · obtain ⟨d, e, bs, cs, hd, he, r1, r2, eq⟩ := lt_of mp mq
      have h1 := hs d hd
      have h2 := hs e he
      cases d <;> first | (cases h1; done) | skip
      cases e <;> first | (cases h2; done) | skip
      show wpAny (model P w) A (keyLt' oneType' p.1 q.1) (fun r s' => s' = _ ∧ r = ltv h0 p.1 q.1) (fun _ _ => False) _
      rw [eq]
      generalize p.1 = p1 at r1
      generalize q.1 = q1 at r2
      cases r1
      cases r2
      exact PySem.W.kas_lt_str ⟨rfl, rfl⟩
  · rw [List.all_eq_true] at hi
    refine ⟨oneType', fun Q E q => PySem.W.kas_kind (T := .type "int") h2 (fun v m => ?_) (by decide +kernel) (by decide +kernel) q, fun p q mp mq => ?_⟩
    · obtain ⟨d, hd, bs, r1⟩ := rd v m
      have := hi d hd
      have l := looks_tn (M := model P w) r1 (.inr (.inl this))
      cases d <;> first | (cases this; done) | exact l
    · obtain ⟨d, e, bs, cs, hd, he, r1, r2, eq⟩ := lt_of mp mq
      have h1 := hi d hd
      have h2 := hi e he
      cases d <;> first | (cases h1; done) | skip
      cases e <;> first | (cases h2; done) | skip
      show wpAny (model P w) A (keyLt' oneType' p.1 q.1) (fun r s' => s' = _ ∧ r = ltv h0 p.1 q.1) (fun _ _ => False) _
      rw [eq, keyLt'_oneType]
      generalize p.1 = p1 at r1
      generalize q.1 = q1 at r2
      cases r1
      cases r2
      exact oneLt_int ⟨rfl, rfl⟩
  · rw [List.all_eq_true] at ht
    have rr : ∃ bs, ReadsAll h' vs ds bs := by
      have aux : ∀ {us : List Value} {es : List D} {cs : List Addr}, (∀ u ∈ us, u ∈ vs) → (∀ e ∈ es, e ∈ ds) → ReadsAll s.heap us es cs → ∃ bs, ReadsAll h' us es bs := by
        intro us es
        induction es generalizing us with
        | nil =>
          intro cs _ _ t
          cases t
          exact ⟨_, .nil⟩
        | cons e es ih =>
          intro cs hu hm t
          cases t with
          | cons t1 t2 =>
            obtain ⟨bs, q⟩ := ih (fun x m => hu x (List.mem_cons_of_mem _ m)) (fun x m => hm x (List.mem_cons_of_mem _ m)) t2
            obtain ⟨bs', q'⟩ := hk h' keep _ _ _ (hu _ List.mem_cons_self) (hm e List.mem_cons_self) t1
            exact ⟨_, .cons q' q⟩
      exact aux (fun _ h => h) (fun _ h => h) r
    obtain ⟨bs0, rr⟩ := rr
    obtain ⟨fs, es, k1, k2, k3, k4⟩ := firsts rr ht
    obtain ⟨f0, e0, hf0, he0, bs1, rf0⟩ : ∃ f0 e0, f0 ∈ fs ∧ e0 ∈ es ∧ ∃ bs, Reads h' f0 e0 bs := by
      cases fs with
      | nil => simp at k2; omega
      | cons f fs =>
        obtain ⟨e, he, q⟩ := k3 f List.mem_cons_self
        exact ⟨f, e, List.mem_cons_self, he, q⟩
    obtain ⟨r0, hr0⟩ := k4 e0 he0
    have ce : ∀ e ∈ es, cmpOk e0 e = true := fun e m => by
      obtain ⟨r1, hr1⟩ := k4 e m
      have := pr _ hr0 _ hr1
      have this : cmpLz (e0 :: r0) (e :: r1) = true := this
      rw [cmpLz, Bool.and_eq_true] at this
      exact this.1
    have kinds : isStr e0 = true ∨ isInt e0 = true ∨ isTup e0 = true := by
      have := ce e0 he0
      cases e0 <;> first | exact .inl rfl | exact .inr (.inl rfl) | exact .inr (.inr rfl) | (cases this; done)
    have tnE : ∀ e ∈ es, tn e = tn e0 ∧ (isStr e = true ∨ isInt e = true ∨ isTup e = true) := fun e m => by
      have c := ce e m
      rcases kinds with h | h | h
      · have h' := cmp_str c h
        cases e0 <;> first | (cases h; done) | skip
        cases e <;> first | (cases h'; done) | exact ⟨rfl, .inl rfl⟩
      · have h' := cmp_int c h
        cases e0 <;> first | (cases h; done) | skip
        cases e <;> first | (cases h'; done) | exact ⟨rfl, .inr (.inl rfl)⟩
      · have h' := cmp_tup c h
        cases e0 <;> first | (cases h; done) | skip
        cases e <;> first | (cases h'; done) | exact ⟨rfl, .inr (.inr rfl)⟩
    refine ⟨tuples' (Value.type (tn e0) != Value.type "tuple"), fun Q E q => PySem.W.kat_kind (T := .type (tn e0)) k1 (by omega) (fun f m => ?_) (by simp) q, fun p q mp mq => ?_⟩
    · obtain ⟨e, he, bs, q1⟩ := k3 f m
      obtain ⟨t1, t2⟩ := tnE e he
      rw [← t1]
      exact looks_tn q1 t2
    · obtain ⟨d, e, bs, cs, hd1, he1, r1, r2, eq⟩ := lt_of mp mq
      have h1 := ht d hd1
      have h2 := ht e he1
      cases d with
      | tuple xs =>
        cases e with
        | tuple ys =>
          show wpAny (model P w) A (keyLt' _ p.1 q.1) (fun r s' => s' = _ ∧ r = ltv h0 p.1 q.1) (fun _ _ => False) _
          rw [eq]
          have c : cmpLz xs ys = true := pr _ hd1 _ he1
          have l1 := mem_lay lay hd1
          have l2 := mem_lay lay he1
          rw [PyData.canLay0] at l1 l2
          have dp := mem_depth hd1
          rw [PyData.depth] at dp
          generalize p.1 = p1 at r1
          generalize q.1 = q1 at r2
          cases r1 with
          | tuple a1 a2 a3 a4 =>
            cases r2 with
            | tuple b1 b2 b3 b4 =>
              refine PySem.W.kat_lt a1 a3 b1 b3 (kat_data (s := { s with heap := h' }) hu xs ys _ _ _ _ 0 a4 b4 c l1 l2 (by omega) (fun hb _ x y hx hy => ?_) _ (by simp) ⟨rfl, rfl⟩)
              have mx : ∃ r, PyData.tuple (x :: r) ∈ ds := by
                cases xs with
                | nil => cases hx
                | cons x' r =>
                  cases hx
                  exact ⟨r, hd1⟩
              have my : ∃ r, PyData.tuple (y :: r) ∈ ds := by
                cases ys with
                | nil => cases hy
                | cons y' r =>
                  cases hy
                  exact ⟨r, he1⟩
              have cx : ∀ z, (∃ r, PyData.tuple (z :: r) ∈ ds) → cmpOk e0 z = true := fun z ⟨r, m⟩ => by
                have := pr _ hr0 _ m
                have this : cmpLz (e0 :: r0) (z :: r) = true := this
                rw [cmpLz, Bool.and_eq_true] at this
                exact this.1
              rcases kinds with h | h | h
              · exact .inl ⟨cmp_str (cx x mx) h, cmp_str (cx y my) h⟩
              · exact .inr ⟨cmp_int (cx x mx) h, cmp_int (cx y my) h⟩
              · exfalso
                cases e0 <;> first | (cases h; done) | skip
                replace hb : (Value.type "tuple" != Value.type "tuple") = true := hb
                exact absurd hb (by decide +kernel)
        | _ => cases h2
      | _ => cases h1
end
theorem read_one {h h1 : Heap} (k : ∀ b o, h.get? b = some o → h1.get? b = some o) {v : Value} {d d' : D} {as bs : List Addr} (l : d.canLay0 = true) (l' : d'.canLay0 = true) (r : Reads h v d as) (r' : Reads h1 v d' bs) : d = d' := by
  have e1 := SeqAt.readOf_eq l (Reads.keeps k r)
  have e2 := SeqAt.readOf_eq l' r'
  exact e1.symm.trans e2
theorem vals_map : ∀ {T : List Tr}, (∀ t ∈ T, L2.RelV t.2.1 t.1) → Vals (T.map (·.2.1)) (T.map (·.1))
  | [], _ => .nil
  | t :: T, h => .cons (h t List.mem_cons_self) (vals_map fun x m => h x (List.mem_cons_of_mem _ m))
theorem rps_map {K : PySem.W.Frag} {H : Hp} {fz : Addr → Prop} : ∀ {T : List Tr}, (∀ t ∈ T, Rp K H fz t.2.1 t.2.2) → Rps K H fz (T.map (·.2.1)) (T.map (·.2.2))
  | [], _ => .nil
  | t :: T, h => .cons (h t List.mem_cons_self) (rps_map fun x m => h x (List.mem_cons_of_mem _ m))
section
variable {X : Cx}
theorem cr_sortedE (hu : X.A.units + 200 < cLine) (hc : X.calm = true) : CallR X (.builtin "sorted") (fun vs H Q => PV X.K (primF .sorted) vs H Q ∧ vs.length = 1) := by
  intro pins s σ H vs us Q I r h
  obtain ⟨x, al, fz, st, r1, r0, st', rfl, ok, h1, e, q⟩ := pv1 h
  have e : (match lstOf st r1 with | some xs => if sortOk xs = true then Rs.ok (R.f (.lst (sortD xs))) st else .err | none => .err) = .ok r0 st' := e
  split at e
  · rename_i ds hds
    obtain ⟨so, e⟩ := if_ok e
    cases e
    obtain ⟨a, xs, rfl, sq, z, pr⟩ := lstOf_ok ok h1 hds
    obtain ⟨its, rv, hl, hz⟩ := I.list sq
    obtain ⟨u, rfl, ru⟩ := vals1 r
    obtain rfl : u = Value.ref a := ru
    obtain ⟨as, rd⟩ := Dp.readsAll I ds xs its pr.dp rv
    have lay := pr.lay
    obtain ⟨T, e1, e2, e3, hT⟩ := triples rv pr rd
    have cmp : ∀ x ∈ ds, ∀ y ∈ ds, cmpPr x y = true := by
      unfold sortOk at so
      simp only [Bool.and_eq_true] at so
      exact pairs_at so.1.1
    have ro : ∀ t ∈ T, SeqAt.readOf s.heap t.1 = t.2.2 := fun t m => by
      obtain ⟨_, _, bs, rr⟩ := hT t m
      exact SeqAt.readOf_eq (mem_lay lay (by rw [← e3]; exact List.mem_map.mpr ⟨t, m, rfl⟩)) rr
    refine SrtO.sorted_ord (swo_ltv s.heap) hl.isList (by rw [← rv.length]; exact z) (fun h2 h₁ b hb kk => ?_) fun out hs hb => ?_
    · have kp : ∀ c o, s.heap.get? c = some o → h₁.get? c = some o := fun c o e => (kk c o e).2
      refine sortable (s := { s with heap := h₁ }) (ds := ds) (ReadsAll.keeps kp rd) lay so h2 (by show X.A.units + 1 + 1 + 160 < cLine; omega) (fun v d bs mv md rr => ?_) fun h' keep v d bs mv md rr => ?_
      · obtain ⟨d', hd', bs', r'⟩ := mem_read rd mv
        have := read_one kp (mem_lay lay hd') (mem_lay lay md) r' rr
        subst this
        exact SeqAt.readOf_eq (mem_lay lay hd') r'
      · obtain ⟨d', hd', bs', r'⟩ := mem_read rd mv
        have := read_one kp (mem_lay lay hd') (mem_lay lay md) r' rr
        subst this
        exact ⟨_, Reads.keeps (h := s.heap) (h' := h') (fun c o e => keep c o (kk c o e).1 (kk c o e).2) r'⟩
    · have eo : out = (sortK (fun t : Tr => enc t.2.2) T).map (·.1) := by
        have pm := sortK_perm (key := fun t : Tr => enc t.2.2) T
        have hin : ∀ t ∈ sortK (fun t : Tr => enc t.2.2) T, t ∈ T := fun t m => pm.mem_iff.mp m
        have lte : ∀ t ∈ T, ∀ x, ltv s.heap t.1 x = ltL (enc t.2.2) (enc (SeqAt.readOf s.heap x)) ∧ ltv s.heap x t.1 = ltL (enc (SeqAt.readOf s.heap x)) (enc t.2.2) := fun t m x => by
          unfold ltv
          rw [ro t m]
          exact ⟨rfl, rfl⟩
        refine SrtO.stb_uniq (swo_ltv s.heap) hs ?_ ?_
        · refine List.pairwise_map.mpr ((sortK_srt (key := fun t : Tr => enc t.2.2) T).imp_of_mem fun {x y} mx my h => ?_)
          rw [(lte y (hin y my) x.1).1, ro x (hin x mx)]
          exact h
        · have st2 : SrtO.Stb (ltv s.heap) ((sortK (fun t : Tr => enc t.2.2) T).map (·.1)) its := by
            refine ⟨by rw [← e1]; exact pm.map _, fun x => ?_⟩
            rw [← e1, List.filter_map, List.filter_map]
            have f1 : ∀ l : List Tr, (∀ t ∈ l, t ∈ T) → l.filter ((SrtO.eqv (ltv s.heap) x) ∘ fun t : Tr => t.1) = l.filter (eqK (key := fun t : Tr => enc t.2.2) (enc (SeqAt.readOf s.heap x))) := fun l hl => by
              refine List.filter_congr fun t m => ?_
              show SrtO.eqv (ltv s.heap) x t.1 = _
              have := lte t (hl t m) x
              unfold SrtO.eqv eqK
              rw [this.1, this.2]
            rw [f1 _ hin, f1 _ (fun _ h => h), sortK_cls]
          exact hb.trans ⟨st2.perm.symm, fun x => (st2.cls x).symm⟩
      have ed : (sortK (fun t : Tr => enc t.2.2) T).map (·.2.2) = sortD ds := by
        rw [sortD_K ds cmp, ← e3]
        exact sortK_map (key := enc) (fun t : Tr => t.2.2) T
      have hin : ∀ t ∈ sortK (fun t : Tr => enc t.2.2) T, t ∈ T := fun t m => (sortK_perm (key := fun t : Tr => enc t.2.2) T).mem_iff.mp m
      have hv : Vals ((sortK (fun t : Tr => enc t.2.2) T).map (·.2.1)) out := by
        rw [eo]
        exact vals_map fun t m => (hT t (hin t m)).1
      have hr : Rps X.K H fz ((sortK (fun t : Tr => enc t.2.2) T).map (·.2.1)) (sortD ds) := by
        rw [← ed]
        exact rps_map fun t m => (hT t (hin t m)).2.1
      have hlen : ((sortK (fun t : Tr => enc t.2.2) T).map (·.2.1)).length ≤ sizeLine := by
        rw [List.length_map, (sortK_perm (key := fun t : Tr => enc t.2.2) T).length_eq]
        have : T.length = xs.length := by rw [← e2, List.length_map]
        rw [this]
        exact z
      have hf : H (s.heap.objs.size + 1) = none := I.hok.fresh (Nat.le_succ _)
      refine ⟨.ref (s.heap.objs.size + 1), upd H (s.heap.objs.size + 1) (.lst _), I.laid (t' := s.toks) (fun b o e => sortedAll_old e) (Nat.le_succ _) ⟨hlen, out, _, hv, (sortedAll_at s.heap its out.toArray).choose_spec⟩, rfl, q.lst ok hr hlen hf⟩
  · cases e
end
end Ev

/-! Ev16e: sets of texts, just made and sorted -/
namespace Ev
open PySem PySem.Spec PyProof.Rows L2 RZ
/-- an entry of a set of texts -/
def EnS (P : Program) (w : World) (e : Int × Value) : Prop := ∃ k tk, e.2 = Value.str k tk ∧ e.1 = (strKind P w).hash k
def txt (e : Int × Value) : Str := match e.2 with
  | .str k _ => k
  | _ => Str.empty
theorem EnS.txt {P : Program} {w : World} {e : Int × Value} (h : EnS P w e) (k : Str) : (strKind P w).is k e.2 = true ↔ Ev.txt e = k := by
  obtain ⟨k0, tk, h1, _⟩ := h
  unfold Ev.txt
  rw [h1]
  dsimp only
  constructor
  · intro z
    obtain ⟨t', e'⟩ := Value.isStrOf_shape (x := k) (v := Value.str k0 tk) z
    cases e'
    rfl
  · rintro rfl
    exact strKind_is P w k0 tk
/-- the set of texts at a holds ks, each once -/
structure SetS (P : Program) (w : World) (h : Heap) (a : Addr) (ks : List Str) : Prop where
  ex : ∃ o es ep t, h.get? a = some o ∧ o.ExactSet ∧ o.data = .set es ep t ∧ (∀ e ∈ es.toList, EnS P w e) ∧ (es.toList.map Ev.txt).Perm ks ∧ es.size < scanBound ∧ t.fits es.size = true ∧ Ris t.place.toList ∧ (w.params.followText "set-order" = true ∨ t.led = true)
  nd : ks.Nodup
section
variable {P : Program} {w : World} {A : Around} {E : Value → Shared → Prop} {s : Shared} {a : Addr} {ks : List Str}
theorem SetS.keep {h h' : Heap} (x : SetS P w h a ks) (k : ∀ o, h.get? a = some o → h'.get? a = some o) : SetS P w h' a ks := by
  obtain ⟨⟨o, es, ep, t, ho, r⟩, nd⟩ := x
  exact ⟨⟨o, es, ep, t, k o ho, r⟩, nd⟩
theorem ens_elems {l : List (Int × Value)} (g : ∀ e ∈ l, EnS P w e) : ElemsOf (strKind P w) l := fun e he => by
  obtain ⟨k, tk, h1, h2⟩ := g e he
  exact ⟨⟨k, by rw [h1]; exact strKind_is P w k tk, h2⟩, by rw [h1] <;> rfl⟩
theorem either_rule {Q : Unit → Shared → Prop} (b : Bool) (q : Q () s) : wpAny (model P w) A (match b with | true => rule "set.scan.the-table-gave-way" | false => pure ()) Q E s := by
  cases b with
  | true => exact wpAny_rule q
  | false => exact wpAny_pure q
/-- the entry is stored, the table perhaps laid anew -/
theorem put_tail {g : Bool → Sem Unit} (hg : ∀ (b : Bool) (s₁ : Shared) (Q' : Unit → Shared → Prop), Q' () s₁ → wpAny (model P w) A (g b) Q' E s₁)
    {o : Obj} {es es1 : Array (Int × Value)} {ep : Nat} {t t2 : SetTable} (ho : s.heap.get? a = some o) (hex : o.ExactSet) (hd : o.data = .set es ep t) (nd : ks.Nodup)
    (g1 : ∀ e ∈ es1.toList, EnS P w e) (p1 : (es1.toList.map Ev.txt).Perm ks) (b1 : es1.size < scanBound) (f2 : t2.fits es1.size = true) (r2 : Ris t2.place.toList) (l2 : w.params.followText "set-order" = true ∨ t2.led = true) {wasDummy : Bool} {R : Option Bool → Shared → Prop}
    (hR : ∀ h', Heap.SameBut a s.heap h' → SetS P w h' a ks → R (some true) { s with heap := h' }) :
    wpAny (model P w) A (do
        storeSet a es1 t2
        if (!wasDummy && t2.tooFull) = true then do
            g (relayAll t2 es1 (SetTable.grown es1.size)).2.2
            storeSet a (relayAll t2 es1 (SetTable.grown es1.size)).1 (relayAll t2 es1 (SetTable.grown es1.size)).2.1
            pure (some true)
          else pure (some true)) R E s := by
  have h1 := store_at (es' := es1) (t' := t2) ho hd
  have same1 := Heap.SameBut.update s.heap a (Obj.putSet es1 t2)
  refine wpAny_bind (wpAny_storeSet_of ho hd ?_ (fits_of_scanBound b1))
  split
  · have pm := relayAll_perm t2 es1 (SetTable.grown es1.size)
    have f3 := relayAll_fits t2 es1 (SetTable.grown es1.size)
    have r3 := relayAll_ris t2 es1 (SetTable.grown es1.size)
    have l3 := relayAll_led t2 es1 (SetTable.grown es1.size)
    revert pm f3 r3 l3
    generalize relayAll t2 es1 (SetTable.grown es1.size) = Z
    intro pm f3 r3 l3
    obtain ⟨es2, t3, gave⟩ := Z
    dsimp only at pm f3 r3 l3 ⊢
    have sz : es2.size = es1.size := by
      have := pm.length_eq
      rwa [Array.length_toList, Array.length_toList] at this
    have b2 : es2.size < scanBound := sz ▸ b1
    refine wpAny_bind (hg _ _ _ (wpAny_bind (wpAny_storeSet_of h1 rfl ?_ (fits_of_scanBound b2))))
    refine wpAny_pure (hR _ (same1.trans (Heap.SameBut.update _ a _)) ⟨⟨_, es2, _, t3, store_at (es' := es2) (t' := t3) h1 rfl, hex, rfl, fun e he => g1 e (pm.mem_iff.mp he), (pm.map _).trans p1, b2, f3, r3, ?_⟩, nd⟩)
    rcases l2 with z | z
    · exact .inl z
    · exact .inr (by rw [l3]; exact z)
  · exact wpAny_pure (hR _ same1 ⟨⟨_, es1, _, t2, h1, hex, rfl, g1, p1, b1, f2, r2, l2⟩, nd⟩)
/-- a text is put in -/
theorem put_one {k : Str} {tk : Tok} {Q : Bool → Shared → Prop} (x : SetS P w s.heap a ks) (room : ks.length + 1 < scanBound)
    (hQ : ∀ b h' ks', Heap.SameBut a s.heap h' → SetS P w h' a ks' → (ks' = if k ∈ ks then ks else k :: ks) → Q b { s with heap := h' }) :
    wpAny (model P w) A (setAddHashed a (.str k tk) ((strKind P w).hash k)) Q E s := by
  obtain ⟨⟨o, es, ep, t, ho, hex, hd, g, pm0, hb, hf, hr, hl⟩, nd⟩ := x
  have key : (strKind P w).is k (.str k tk) = true := strKind_is P w k tk
  have scan : (Value.str k tk).scannable = true := rfl
  have els : ElemsOf (strKind P w) es.toList := ens_elems g
  have sz0 : es.size = ks.length := by
    have := pm0.length_eq
    rwa [List.length_map, Array.length_toList] at this
  unfold setAddHashed setAddHashedIn
  refine wpAny_holding (wpAny_bind (wpAny_setState_of ho hd hf ?_))
  dsimp only
  rw [byScan_of scan hb els]
  simp only [↓reduceIte]
  unfold setAddByScan
  refine wpAny_bind (wpAny_bind (wpAny_rule (wpAny_bind (wpAny_setScan_of key ho hd hf els ?_))))
  cases hfi : List.findIdx? (fun e => (strKind P w).is k e.2) es.toList with
  | some j =>
    dsimp only
    obtain ⟨hj, pj, _⟩ := List.findIdx?_eq_some_iff_getElem.mp hfi
    have hm : k ∈ ks := pm0.mem_iff.mp (List.mem_map.mpr ⟨_, List.getElem_mem hj, ((g _ (List.getElem_mem hj)).txt k).mp pj⟩)
    exact wpAny_pure (wpAny_pure (hQ false s.heap ks (Heap.SameBut.refl a s.heap) ⟨⟨o, es, ep, t, ho, hex, hd, g, pm0, hb, hf, hr, hl⟩, nd⟩ (by rw [if_pos hm])))
  | none =>
    dsimp only
    have hn : k ∉ ks := fun z => by
      obtain ⟨e, he, q⟩ := List.mem_map.mp (pm0.mem_iff.mpr z)
      have c := List.findIdx?_eq_none_iff.mp hfi e he
      rw [((g e he).txt k).mpr q] at c
      cases c
    have pm := layNew_perm t es ((strKind P w).hash k) (.str k tk)
    have f1 := layNew_fits t es ((strKind P w).hash k) (.str k tk)
    have r1 := layNew_ris t es ((strKind P w).hash k) (.str k tk) hr
    have l1 := layNew_led t es ((strKind P w).hash k) (.str k tk)
    revert pm f1 r1 l1
    generalize layNew t es ((strKind P w).hash k) (.str k tk) = Z
    intro pm f1 r1 l1
    obtain ⟨es1, t1, wasDummy, gave⟩ := Z
    dsimp only at pm f1 r1 l1 ⊢
    rw [Array.toList_push] at pm
    have pc : es1.toList.Perm (((strKind P w).hash k, Value.str k tk) :: es.toList) := pm.trans (List.perm_append_singleton _ _)
    have pk : (es1.toList.map Ev.txt).Perm (k :: ks) := (pc.map Ev.txt).trans (List.Perm.cons k pm0)
    have g1 : ∀ e ∈ es1.toList, EnS P w e := fun e he => by
      rcases List.mem_cons.mp (pc.mem_iff.mp he) with z | z
      · exact ⟨k, tk, by rw [z], by rw [z]⟩
      · exact g e z
    have sz : es1.size = ks.length + 1 := by
      have := pc.length_eq
      rw [List.length_cons, Array.length_toList, Array.length_toList, sz0] at this
      exact this
    have b1 : es1.size < scanBound := by rw [sz]; exact room
    have l2 : w.params.followText "set-order" = true ∨ t1.led = true := by
      rcases hl with z | z
      · exact .inl z
      · exact .inr (by rw [l1]; exact z)
    have nd' : (k :: ks).Nodup := List.nodup_cons.mpr ⟨hn, nd⟩
    have fin : ∀ h', Heap.SameBut a s.heap h' → SetS P w h' a (k :: ks) → Q true { s with heap := h' } := fun h' sb r => hQ true h' _ sb r (by rw [if_neg hn])
    refine wpAny_bind (either_rule _ ?_)
    split
    · refine wpAny_bind ?_
      rw [hashByValue_scannable 8 scan]
      refine wpAny_pure ?_
      refine put_tail (ks := k :: ks) ?_ ho hex hd nd' g1 pk b1 ?_ ?_ ?_ ?_
      · intro b s₁ Q' q; cases b <;> first | exact wpAny_pure q | exact wpAny_rule q
      · first | (split <;> first | exact f1 | exact SetTable.fits_plain_off f1) | exact f1
      · first | (split <;> exact r1) | exact r1
      · first | (split <;> exact l2) | exact l2
      · intro h' sb r; dsimp only; exact wpAny_pure (fin h' sb r)
    · refine wpAny_bind (wpAny_pure ?_)
      simp only [↓reduceIte]
      refine put_tail (ks := k :: ks) ?_ ho hex hd nd' g1 pk b1 f1 r1 l2 ?_
      · intro b s₁ Q' q; cases b <;> first | exact wpAny_pure q | exact wpAny_rule q
      · intro h' sb r; dsimp only; exact wpAny_pure (fin h' sb r)
/-- what the set has got from the first i texts -/
def GotS (xs : List Str) (i : Nat) (ks : List Str) : Prop := ks.length ≤ i ∧ ∀ k, k ∈ ks ↔ k ∈ xs.take i
theorem GotS.step {xs ks : List Str} {i : Nat} {k : Str} (g : GotS xs i ks) (h : xs[i]? = some k) : GotS xs (i + 1) (if k ∈ ks then ks else k :: ks) := by
  have e : xs.take (i + 1) = xs.take i ++ [k] := by rw [List.take_add_one, h]; rfl
  unfold GotS
  rw [e]
  by_cases c : k ∈ ks
  · rw [if_pos c]
    refine ⟨Nat.le_succ_of_le g.1, fun x => ?_⟩
    rw [g.2 x, List.mem_append, List.mem_singleton]
    constructor
    · exact .inl
    · rintro (h | rfl)
      · exact h
      · exact (g.2 _).mp c
  · rw [if_neg c]
    refine ⟨Nat.succ_le_succ g.1, fun x => ?_⟩
    rw [List.mem_cons, g.2 x, List.mem_append, List.mem_singleton]
    exact Or.comm
/-- the loop that fills it -/
theorem fill_loop {I : Addr} {fp wr : List Addr} {G : Array GenState → Array GenState → Prop} {n : Nat} {Pv : Nat → Value → Prop} {St : Nat → Shared → Prop} {R : Result → Shared → Prop}
    (W : WalksS P w A.in1 I fp wr G n Pv St) (S : Addr) (hSf : S ∉ fp) (xs : List Str) (hn : n = xs.length) (hfew : xs.length + 1 < scanBound) (hval : ∀ i v, Pv i v → ∃ k t, xs[i]? = some k ∧ v = .str k t) :
    ∀ (k i : Nat) (s : Shared), n - i = k → i ≤ n → St i s → (∃ ks, SetS P w s.heap S ks ∧ GotS xs i ks) →
      (∀ s' ks, Moved (S :: wr) G s s' → SetS P w s'.heap S ks → GotS xs n ks → R (.ok (.ret .none)) s') →
      codeAny (model P w) A (.builtin "set.update.loop" ⟨[.ref S, .ref I], []⟩) R s := by
  have hSw : S ∉ wr := fun h => hSf (W.sub _ h)
  have up : ∀ b ∈ wr, b ∈ S :: wr := fun b hb => List.mem_cons_of_mem _ hb
  intro k
  induction k with
  | zero =>
    intro i s hk' hi hst ⟨ks, hS, g⟩ hR
    have hin : i = n := by omega
    subst hin
    refine codeAny_builtin F.entry_set_update_loop ?_
    rw [Around.under_plainId F.plain_set_update_loop _]
    show wpAny _ A.in1 (pyNext (.ref I) >>= _) _ _ s
    refine wpAny_bind (W.done s _ _ hst fun s' hm => ?_)
    show wpAny _ A.in1 (ret Value.none) _ _ s'
    exact wpAny_pure (hR s' ks (hm.mono up) (hS.keep fun o e => hm.heap S o hSw e) g)
  | succ k ih =>
    intro i s hk' hi hst ⟨ks, hS, g⟩ hR
    have hlt : i < n := by omega
    refine codeAny_builtin F.entry_set_update_loop ?_
    rw [Around.under_plainId F.plain_set_update_loop _]
    show wpAny _ A.in1 (pyNext (.ref I) >>= _) _ _ s
    refine wpAny_bind (W.item i s _ _ hlt hst fun v s' hP hst' hm => ?_)
    obtain ⟨x, t, hx, rfl⟩ := hval i v hP
    have hS' : SetS P w s'.heap S ks := hS.keep fun o e => hm.heap S o hSw e
    show wpAny _ A.in1 (holding [Value.str x t] (setAdd S (.str x t)) >>= _) _ _ s'
    refine wpAny_bind (wpAny_holding ?_)
    unfold setAdd
    refine wpAny_holding (wpAny_bind ((strKind P w).pyHash (strKind_is P w x t) ?_))
    refine put_one (s := { s' with toks := s'.toks + 1 }) hS' (by have := g.1; omega) fun b h' ks' hsb hS2 e => ?_
    have g' : GotS xs (i + 1) ks' := by rw [e]; exact g.step hx
    refine wpAny_pure ⟨plainId_quiet F.plain_set_update_loop _, ih (i + 1) _ (by omega) hlt (W.frame _ s' _ _ hst' (Nat.le_succ _) fun b hb o e => ?_) ⟨ks', hS2, g'⟩ fun s'' ks2 hm'' hS'' g'' => ?_⟩
    · rw [hsb.2 b (fun h : b = S => hSf (by rw [← h]; exact hb))]; exact e
    · refine hR s'' ks2 (Moved.trans W.gtrans ((hm.mono up).then_heap (Nat.le_succ _) fun b o hb e => ?_) hm'') hS'' g''
      rw [hsb.2 b (fun h : b = S => hb (by rw [h]; exact List.mem_cons_self))]; exact e
end
end Ev

/-! Ev16f: sorted(set(texts)) -/
namespace Ev
open PySem PySem.Spec PyProof.Rows L2 RZ
section
variable {P : Program} {w : World} {A : Around} {E : Value → Shared → Prop} {s : Shared} {a : Addr} {ks : List Str}
abbrev newSet (w : World) : Obj := { cls := .type "set", dict := none, data := .set #[] 0 (.fresh 0 0 (!w.params.followText "set-order")) }
theorem fresh_set {h : Heap} {a : Addr} (e : h.get? a = some (newSet w)) : SetS P w h a [] :=
  ⟨⟨_, #[], 0, _, e, ⟨rfl, rfl, rfl⟩, rfl, (fun e he => by simp at he), (by simp), (by decide), (by rfl), List.Pairwise.nil, by
    show _ ∨ (!w.params.followText "set-order") = true
    cases w.params.followText "set-order"
    · exact .inr rfl
    · exact .inl rfl⟩, List.nodup_nil⟩
/-- set(l), l a list of texts -/
theorem make_set {l : Addr} {items : Array Value} (xs : List Str) {Q : Value → Shared → Prop} (hh : A.handled = none) (hl : s.heap.IsList l items) (hit : ∀ (i : Nat) (v : Value), items[i]? = some v → ∃ k t, xs[i]? = some k ∧ v = .str k t) (hz : items.size = xs.length) (hfew : xs.length + 1 < scanBound)
    (h : ∀ (h' : Heap) (tk : Nat) (ks : List Str), SetS P w h' s.heap.objs.size ks → GotS xs xs.length ks → (∀ b o, s.heap.get? b = some o → h'.get? b = some o) → s.heap.objs.size ≤ h'.objs.size → Q (.ref s.heap.objs.size) { s with heap := h', toks := tk }) :
    wpAny (model P w) A (call (.type "set") [.ref l]) Q E s := by
  obtain ⟨c, tl, hmro⟩ := F.called_set.mro
  have hmade := F.called_set.made
  have hsub := F.called_set.sub
  refine wpAny_call (codeAny_of_tree ?_)
  show wpAny _ _ (callAny (.type "set") _) _ _ _
  refine wpAny_pure ⟨Code.quiet_builtin _ (by decide +kernel), codeAny_builtin F.entry_type_call ?_⟩
  rw [Around.under_plain (weight_type_call_type "set" [.ref l] []) rfl]
  have h1 := F.called_set.notType
  have h2 := F.called_set.canCreate
  have hct := F.typeCall_set_1 (.ref l)
  repeat (any_goals (first | assumption | wp_step))

  refine codeAny_mono (code_set_led1 (.ref l) (E := E) (Q₁ := fun obj s₁ => obj = .ref s.heap.objs.size ∧ s₁ = { s with heap := s.heap.push (newSet w) }) ⟨rfl, rfl⟩) fun r s₁ hr => ?_
  cases r with
  | error e => exact hr
  | ok fl =>
    cases fl with
    | ret obj =>
      obtain ⟨rfl, rfl⟩ := hr
      have hS : (s.heap.push (newSet w)).get? s.heap.objs.size = some (newSet w) := Heap.get?_push_size _ rfl
      have hT : Shared.TypeIs { s with heap := s.heap.push (newSet w) } (.ref s.heap.objs.size) "set" := ⟨_, hS, rfl⟩
      have hli := F.called_set.init.lookup
      have hbi := F.called_set.init.bind (.ref s.heap.objs.size)
      repeat (any_goals (first | assumption | wp_step))

      refine codeAny_mono (codeAny_call_builtin (R := wants (fun r s₂ => r = .none ∧ ∃ h' tk ks, s₂ = { s with heap := h', toks := tk } ∧ SetS P w h' s.heap.objs.size ks ∧ GotS xs xs.length ks ∧ (∀ b o, s.heap.get? b = some o → h'.get? b = some o)) E) F.called_set.init.plain F.entry_set_init (check_set_init_1 hT ?_)) fun r₂ s₂ hr₂ => ?_
      · obtain ⟨ol, hol, hcl, nl, hdl⟩ := hl
        obtain ⟨ocls, odict, odata, oslots⟩ := ol
        simp only at hcl hdl
        subst hcl; subst hdl
        have hol' : (s.heap.push (newSet w)).get? l = some { cls := .type "list", dict := odict, data := .seq items nl, slots := oslots } := Heap.get?_push_of_some _ hol
        have hsls := F.sub_list_set
        have hslf := F.sub_list_frozenset
        have hne : (Value.type "list" == Value.type "dict") = false := by decide
        have hl1 : (s.heap.push (newSet w)).IsList l items := ⟨_, hol', rfl, nl, rfl⟩
        unfold Builtin.«set.__init__» noKeywords Builtin.Frozenset.updateFrom
        generalize hPI : pyIter = PI
        wp_walk
        subst hPI

        refine wpAny_pyIter_list hl1 ?_
        refine wpAny_bind (wpAny_runValue ?_)
        have hlS : l < s.heap.objs.size := Heap.lt_size hol
        have hh3 : A.in1.in1.in1.handled = none := by simp [hh]
        have hneI : l ≠ (s.heap.push (newSet w)).objs.size := by
          rw [Heap.size_push]; exact Nat.ne_of_lt (Nat.lt_succ_of_lt hlS)
        have hSf : s.heap.objs.size ∉ [(s.heap.push (newSet w)).objs.size, l] := by
          rw [Heap.size_push]; simp only [List.mem_cons, List.mem_singleton, List.not_mem_nil, or_false, not_or]
          exact ⟨Nat.ne_of_lt (Nat.lt_succ_self _), Nat.ne_of_gt hlS⟩
        refine fill_loop ((Walks.list hh3 _ l hneI items).toS) s.heap.objs.size hSf xs hz hfew hit (items.size - 0) 0 _ (by omega) (Nat.zero_le _) ⟨⟨_, Heap.get?_push_size _ rfl, rfl, rfl⟩, (hl1.push _)⟩ ?hS0 ?hR
        case hS0 => exact ⟨[], fresh_set (Heap.get?_push_of_some _ hS), Nat.zero_le _, fun k => by simp⟩
        case hR =>
          intro s' ks hm hS' g'
          obtain ⟨h', g2, d', tk', os'⟩ := s'
          have eg : g2 = s.gens := hm.gens
          have ed : d' = s.drawn := hm.drawn
          have eo : os' = s.os := hm.os
          subst eg; subst ed; subst eo
          show wpAny _ _ _ _ _ _
          refine wpAny_pure ?_
          show wpAny _ _ (ret Value.none) _ _ _
          rw [hz] at g'
          refine wpAny_pure ⟨rfl, h', tk', ks, rfl, hS', g', fun b o e => ?_⟩
          have hb := Heap.lt_size e
          have hb1 : b ≠ s.heap.objs.size := Nat.ne_of_lt hb
          have hb2 : b ≠ (s.heap.push (newSet w)).objs.size := by
            rw [Heap.size_push]; exact Nat.ne_of_lt (Nat.lt_succ_of_lt hb)
          exact hm.heap b o (by simp only [List.mem_cons, List.mem_singleton, List.not_mem_nil, or_false, not_or]; exact ⟨hb1, hb2⟩) (Heap.get?_push_of_some _ (Heap.get?_push_of_some _ e))

      · cases r₂ with
        | error e => exact hr₂
        | ok fl₂ =>
          cases fl₂ with
          | ret r =>
            obtain ⟨rfl, h', tk, ks, rfl, hS', g', hk'⟩ := hr₂
            repeat (any_goals (first | assumption | wp_step))
            have : s.heap.objs.size ≤ h'.objs.size := by
              obtain ⟨⟨o, _, _, _, ho, _⟩, _⟩ := hS'
              exact Nat.le_of_lt (Heap.lt_size ho)
            exact h _ _ _ hS' g' hk' this
          | _ => exact hr₂.elim
    | _ => exact hr.elim
/-- texts, as the machine's values -/
theorem strs_ltv {h : Heap} {v u : Value} {x y : Str} {t t' : Tok} (e1 : v = .str x t) (e2 : u = .str y t') (l1 : PyData.strOk x = true) (l2 : PyData.strOk y = true) : ltv h v u = ltD (.str x) (.str y) := by
  unfold ltv
  rw [SeqAt.readOf_eq (d := .str x) l1 (by rw [e1]; exact .str x t), SeqAt.readOf_eq (d := .str y) l2 (by rw [e2]; exact .str y t')]
  exact enc_ok rfl
/-- sorted(S), S a set of texts -/
theorem sort_set {Q : Value → Shared → Prop} (R : SetS P w s.heap a ks) (hh : A.handled = none) (hu : A.units + 170 < cLine) (lay : ∀ k ∈ ks, PyData.strOk k = true)
    (hQ : ∀ s' p (out : List Value) (c : Nat) (ys : List Str), (∀ b o, s.heap.get? b = some o → s'.heap.get? b = some o) → s'.gens = s.gens → s'.os = s.os → s.heap.objs.size ≤ p →
      s'.heap.get? p = some (seqObj "list" out.toArray c) → Vals (ys.map V.str) out → ys.Perm ks → ys.Pairwise (fun x y => ltD (.str y) (.str x) = false) → Q (.ref p) s') :
    wpAny (model P w) A (call (.builtin "sorted") [.ref a]) Q E s := by
  obtain ⟨⟨o, es, ep, t, ho, hex, hd, g, pm0, hb, hf, hr, hl⟩, nd⟩ := R
  refine Calls.call_function_entry kind_sorted plain_sorted entry_sorted (args_sorted1 _) ?_
  unfold Builtin.«sorted»
  refine wpAny_bind (m := checkCount "sorted" 1 1 _) (wpAny_pure ?_)
  refine wpAny_bind (collect_set (A := A.in1) hh ⟨o, ho, hex.1, hd⟩ hf hb hr hl fun s1 vs k1 hz g1 o1 pm => ?_)
  have each : ∀ v ∈ vs, ∃ k tk, v = Value.str k tk ∧ k ∈ ks := fun v hv => by
    obtain ⟨e, he, q⟩ := List.mem_map.mp (pm.mem_iff.mp hv)
    obtain ⟨k, tk, h1, h2⟩ := g e he
    refine ⟨k, tk, by rw [← q]; exact h1, pm0.mem_iff.mp (List.mem_map.mpr ⟨e, he, ?_⟩)⟩
    unfold Ev.txt
    rw [h1]
  have lenv : vs.length ≤ sizeLine := by
    rw [pm.length_eq, List.length_map, Array.length_toList]
    exact Nat.le_trans (Nat.le_of_lt hb) (by decide)
  refine wpAny_bind (wpAny_newList ?_ lenv)
  have hoL : (s1.heap.push (seqObj "list" vs.toArray 0)).get? s1.heap.objs.size = some (seqObj "list" vs.toArray 0) := Heap.get?_push_size _ rfl
  refine wpAny_bind (wpAny_holding (wpAny_call_entry slot_list_sort ⟨_, hoL, rfl⟩ entry_list_sort (SrtO.list_sort_ord (swo_ltv s.heap) hoL lenv (fun h2 h' keep => ?_) fun out hs hst => ⟨_, rfl, ?_⟩) (args_list_sort _)))
  · refine ⟨oneType', fun Q E q => PySem.W.kas_kind (T := .type "str") h2 (fun v m => ?_) (by decide +kernel) (by decide +kernel) q, fun p q mp mq => ?_⟩
    · obtain ⟨k, tk, rfl, _⟩ := each v m
      exact PySem.W.Looks.now
    · obtain ⟨x, t1, e1, m1⟩ := each _ mp
      obtain ⟨y, t2, e2, m2⟩ := each _ mq
      show wpAny (model P w) _ (keyLt' oneType' p.1 q.1) (fun r s' => s' = _ ∧ r = ltv s.heap p.1 q.1) (fun _ _ => False) _
      rw [strs_ltv e1 e2 (lay x m1) (lay y m2), e1, e2]
      exact PySem.W.kas_lt_str ⟨rfl, rfl⟩
  · obtain ⟨c, hc⟩ := sortedHeap_at (vs := vs) (out := out.toArray) hoL
    let tx : Value → Str := fun v => match v with | .str k _ => k | _ => Str.empty
    have hv : ∀ l : List Value, (∀ v ∈ l, ∃ k tk, v = Value.str k tk) → Vals ((l.map tx).map V.str) l := by
      intro l
      induction l with
      | nil => intro _; exact .nil
      | cons v l ih =>
        intro hl
        obtain ⟨k, tk, rfl⟩ := hl v List.mem_cons_self
        exact .cons ⟨tk, rfl⟩ (ih fun x m => hl x (List.mem_cons_of_mem _ m))
    have pmo : out.Perm vs := hst.perm
    have eo : ∀ v ∈ out, ∃ k tk, v = Value.str k tk ∧ k ∈ ks := fun v m => each v (pmo.mem_iff.mp m)
    refine wpAny_pure ⟨_, rfl, hQ _ s1.heap.objs.size out c (out.map tx) (fun b u e => ?_) g1 o1 hz hc (hv out fun v m => ?_) ?_ ?_⟩
    · have q := k1 b u e
      have hlt := Heap.lt_size q
      show (sortedHeap (s1.heap.push (seqObj "list" vs.toArray 0)) s1.heap.objs.size vs out.toArray).get? b = some u
      rw [sortedHeap_old (Nat.ne_of_lt hlt) (by rw [size_push']; exact Nat.lt_succ_of_lt hlt)]
      exact Heap.get?_push_of_some _ q
    · obtain ⟨k, tk, e, _⟩ := eo v m
      exact ⟨k, tk, e⟩
    · have q1 : (out.map tx).Perm (vs.map tx) := pmo.map tx
      have q2 : (vs.map tx).Perm ((es.toList.map (·.2)).map tx) := pm.map tx
      have q3 : (es.toList.map (·.2)).map tx = es.toList.map Ev.txt := by
        rw [List.map_map]
        rfl
      rw [q3] at q2
      exact q1.trans (q2.trans pm0)
    · refine List.pairwise_map.mpr (hs.imp_of_mem fun {v u} mv mu h => ?_)
      obtain ⟨x, t1, e1, m1⟩ := eo v mv
      obtain ⟨y, t2, e2, m2⟩ := eo u mu
      rw [strs_ltv e2 e1 (lay y m2) (lay x m1)] at h
      have f1 : tx v = x := by rw [e1]
      have f2 : tx u = y := by rw [e2]
      rw [f1, f2]
      exact h
end
/-! ### the plain side -/
theorem any_str (b : Str) : ∀ bs : List Str, ((bs.map PyData.str).any fun y => PyData.eqv y (.str b)) = decide (b ∈ bs)
  | [] => rfl
  | c :: bs => by
    rw [List.map_cons, List.any_cons, any_str b bs]
    show ((c == b) || decide (b ∈ bs)) = decide (b ∈ c :: bs)
    by_cases e : c = b
    · subst e
      simp
    · have e2 : (c == b) = false := by simpa using e
      rw [e2, Bool.false_or]
      have : (b ∈ c :: bs) ↔ b ∈ bs := by
        rw [List.mem_cons]
        constructor
        · rintro (h | h)
          · exact absurd h.symm e
          · exact h
        · exact .inr
      by_cases c2 : b ∈ bs
      · rw [decide_eq_true c2, decide_eq_true (this.mpr c2)]
      · rw [decide_eq_false c2, decide_eq_false (fun z => c2 (this.mp z))]
theorem dedup_str : ∀ {bs : List Str}, ∃ cs : List Str, dedup (bs.map PyData.str) = cs.map PyData.str ∧ cs.Nodup ∧ ∀ k, k ∈ cs ↔ k ∈ bs
  | [] => ⟨[], rfl, List.nodup_nil, fun k => Iff.rfl⟩
  | b :: bs => by
    obtain ⟨cs, e, nd, mm⟩ := dedup_str (bs := bs)
    rw [List.map_cons]
    unfold dedup
    have ea := any_str b bs
    rw [ea]
    by_cases c : b ∈ bs
    · rw [decide_eq_true c, if_pos rfl]
      refine ⟨cs, e, nd, fun k => ?_⟩
      rw [mm, List.mem_cons]
      constructor
      · exact .inr
      · rintro (rfl | h)
        · exact c
        · exact h
    · rw [decide_eq_false c, if_neg (by decide)]
      refine ⟨b :: cs, by rw [e]; rfl, List.nodup_cons.mpr ⟨fun m => c ((mm b).mp m), nd⟩, fun k => ?_⟩
      rw [List.mem_cons, List.mem_cons, mm]
theorem perm_of {l m : List Str} (h1 : l.Nodup) (h2 : m.Nodup) (h : ∀ k, k ∈ l ↔ k ∈ m) : l.Perm m := (List.perm_ext_iff_of_nodup h1 h2).mpr h
theorem lt_tri {x y : Str} (h1 : ltD (.str x) (.str y) = false) (h2 : ltD (.str y) (.str x) = false) : x = y := by
  have h1 : ¬ x.cps.toList < y.cps.toList := of_decide_eq_false h1
  have h2 : ¬ y.cps.toList < x.cps.toList := of_decide_eq_false h2
  have e : x.cps.toList = y.cps.toList := List.le_antisymm (List.not_lt.mp h2) (List.not_lt.mp h1)
  obtain ⟨x⟩ := x
  obtain ⟨y⟩ := y
  exact congrArg Str.mk (Array.ext' e)
theorem sorted_uniq : ∀ {l m : List Str}, l.Perm m → l.Pairwise (fun x y => ltD (.str y) (.str x) = false) → m.Pairwise (fun x y => ltD (.str y) (.str x) = false) → l = m
  | [], m, p, _, _ => by
    rw [List.nil_perm.mp p]
  | x :: l, [], p, _, _ => by
    have := p.length_eq
    simp at this
  | x :: l, y :: m, p, h1, h2 => by
    obtain ⟨a1, a2⟩ := List.pairwise_cons.mp h1
    obtain ⟨b1, b2⟩ := List.pairwise_cons.mp h2
    have mx : x ∈ y :: m := p.mem_iff.mp List.mem_cons_self
    have my : y ∈ x :: l := p.mem_iff.mpr List.mem_cons_self
    have e : x = y := by
      rcases List.mem_cons.mp mx with e | mx
      · exact e
      · rcases List.mem_cons.mp my with e | my
        · exact e.symm
        · exact lt_tri (b1 x mx) (a1 y my)
    subst e
    rw [sorted_uniq (List.Perm.cons_inv p) a2 b2]
/-! ### the rule -/
def SetSO (P : Program) (w : World) (a : Addr) (ks : List Str) : HO := .ext fun h => SetS P w h a ks
theorem setSO_new {P : Program} {w : World} {H : Hp} {h : Heap} {a : Addr} {ks : List Str} (R : SetS P w h a ks) : ObjOk P w H h a (SetSO P w a ks) := by
  obtain ⟨o, _, _, _, ho, _⟩ := R.ex
  exact ⟨R, ⟨o, ho⟩, fun h1 h2 p k => SetS.keep p k⟩
section
variable {X : Cx} {cl : Nat → Value} {Φ : Calls} {W : WX} {a b c : Expr} {ea eb : E} {pos : Pos}
def rMkS (K : PySem.W.Frag) (P : Program) (w : World) : List V → Hp → VK → Prop := fun vs H Q => ∃ (l : Addr) (bs : List Str), vs = [V.ref l] ∧ SqL K H l (bs.map V.str) ∧ bs.length + 1 < scanBound ∧ ∀ p ks, H p = none → GotS bs bs.length ks → ks.Nodup → Q (.ref p) (upd H p (SetSO P w p ks))
theorem cr_mkS (hc : X.calm = true) : CallR X (.type "set") (rMkS X.K X.prog X.w) := by
  intro pins s σ H xs us Q I r h
  obtain ⟨l, bs, rfl, hl, hz, q⟩ := h
  rw [Vals.ref1 r]
  obtain ⟨its, rv, pl, hz2⟩ := I.list hl
  have hn : H s.heap.objs.size = none := I.hok.fresh (Nat.le_refl _)
  have hlen : its.toArray.size = bs.length := by
    rw [List.size_toArray, ← rv.length, List.length_map]
  refine make_set (P := X.prog) (w := X.w) bs (I.ok.hd hc) pl.isList (fun i v hv => ?_) hlen hz fun h' tk ks R g k _ => ?_
  · have hv : its[i]? = some v := by simpa using hv
    have hi : i < bs.length := by
      have := (List.getElem?_eq_some_iff.mp hv).1
      rw [← hlen]
      simpa using this
    have hb : (bs.map V.str)[i]? = some (V.str bs[i]) := by simp [hi]
    obtain ⟨u, hu, ru⟩ := rv.get hb
    rw [hv] at hu
    cases hu
    obtain ⟨t, rfl⟩ := ru
    exact ⟨bs[i], t, List.getElem?_eq_getElem hi, rfl⟩
  · exact ⟨.ref s.heap.objs.size, upd H s.heap.objs.size (SetSO X.prog X.w s.heap.objs.size ks), I.laid (t' := tk) k (Nat.le_refl _) (setSO_new R), rfl, q _ _ hn g R.nd⟩
def rSoS (P : Program) (w : World) : List V → Hp → VK → Prop := fun vs H Q => ∃ (a : Addr) (ks : List Str), vs = [V.ref a] ∧ H a = some (SetSO P w a ks) ∧ (∀ k ∈ ks, PyData.strOk k = true) ∧ ks.length ≤ 4096 ∧
  ∀ p (ys : List Str), H p = none → ys.Perm ks → ys.Pairwise (fun x y => ltD (.str y) (.str x) = false) → Q (.ref p) (upd H p (.lst (ys.map V.str)))
theorem cr_soS (hc : X.calm = true) (hu : X.A.units + 200 < cLine) : CallR X (.builtin "sorted") (rSoS X.prog X.w) := by
  intro pins s σ H vs us Q I r h
  obtain ⟨a, ks, rfl, ha, hk, hl, q⟩ := h
  have R : SetS X.prog X.w s.heap a ks := (I.hok a _ ha).1
  rw [Vals.ref1 r]
  refine sort_set R (I.ok.hd hc) (by omega) hk fun s' p out c ys k g o hp hg hv pm pw => ?_
  have hn : H p = none := I.hok.fresh hp
  have hlen : (ys.map V.str).length ≤ sizeLine := by
    rw [List.length_map, pm.length_eq]
    exact Nat.le_trans hl (by decide)
  have J : Inv X pins σ (upd H p (.lst (ys.map V.str))) { s with heap := s'.heap, gens := s'.gens, drawn := s'.drawn, toks := s'.toks } :=
    I.call (ch := []) (Un.laid k hp hn) (I.hok.laid k hp ⟨hlen, out, c, hv, hg⟩) (by rw [g]; exact I.bare) (fun _ z => nomatch z)
  have e : s' = { s with heap := s'.heap, gens := s'.gens, drawn := s'.drawn, toks := s'.toks } := by
    cases s'
    cases s
    cases o
    rfl
  rw [e]
  exact ⟨.ref p, _, J, rfl, q p ys hn pm pw⟩
theorem sortset_v {v : V} {H : Hp} {Q : VK} (h : PA0 X.K (primF .sortset) [v] H Q) : rMkS X.K X.prog X.w [v] H fun x H2 => rSoS X.prog X.w [x] H2 Q := by
  obtain ⟨al, fz0, H0, fz, st, rs, r0, st', g, ok, t, e, q⟩ := h
  obtain ⟨r1, rfl, h1⟩ := paired1 t.rr
  have e : newL r1 (fun xs => if (xs.all isStr && decide (xs.length ≤ 60)) = true then Rs.ok (R.f (.lst (sortD (dedup xs)))) st else .err) = .ok r0 st' := e
  obtain ⟨ds, rfl, e⟩ := newL_ok e
  obtain ⟨hc, e⟩ := if_ok e
  cases e
  rw [Bool.and_eq_true] at hc
  obtain ⟨l, rfl, ⟨xs, hH, z, pr⟩, _, _⟩ := h1
  obtain ⟨bs, rfl, rfl, hb⟩ := strs_of pr hc.1
  have hlen : bs.length ≤ 60 := by
    have := of_decide_eq_true hc.2
    simpa using this
  refine ⟨l, bs, rfl, sq_new hH, by show bs.length + 1 < 4096; omega, fun p ks n gs nd => ?_⟩
  have mem : ∀ k, k ∈ ks ↔ k ∈ bs := fun k => by rw [gs.2 k, List.take_length]
  refine ⟨p, ks, rfl, upd_same, fun k m => (Bool.and_eq_true_iff.mp (hb k ((mem k).mp m))).1, by have := gs.1; omega, fun p2 ys n2 pm pw => ?_⟩
  obtain ⟨cs, ec, ndc, mc⟩ := dedup_str (bs := bs)
  have ez : sortD (dedup (bs.map PyData.str)) = (sortK (fun b : Str => enc (.str b)) cs).map PyData.str := by
    rw [ec, sortD_K _ (fun x hx y hy => by
      obtain ⟨x, _, rfl⟩ := List.mem_map.mp hx
      obtain ⟨y, _, rfl⟩ := List.mem_map.mp hy
      rfl)]
    exact (sortK_map (key := enc) PyData.str cs).symm
  have ey : ys = sortK (fun b : Str => enc (.str b)) cs := by
    refine sorted_uniq ((pm.trans (perm_of nd ndc fun k => (mem k).trans (mc k).symm)).trans (sortK_perm cs).symm) pw ?_
    refine (sortK_srt (key := fun b : Str => enc (.str b)) cs).imp fun {x y} h => ?_
    rw [← enc_ok (d := .str y) (e := .str x) rfl]
    exact h
  have okz : ∀ y ∈ ys, okS y = true := fun y m => hb y ((mem y).mp (pm.mem_iff.mp m))
  have hr : ∀ {H : Hp} {fz : Addr → Prop} {l : List Str}, (∀ y ∈ l, okS y = true) → Rps X.K H fz (l.map V.str) (l.map PyData.str) := by
    intro H fz l
    induction l with
    | nil => intro _; exact .nil
    | cons y l ih =>
      intro hl
      exact .cons (.str y (hl y List.mem_cons_self)) (ih fun x m => hl x (List.mem_cons_of_mem _ m))
  have g2 : Go al fz H fz (upd H p (SetSO X.prog X.w p ks)) := go_new n
  refine (Post.from (g.trans g2) q).lst (ok.new n) ?_ ?_ n2
  · rw [ez, ← ey]
    exact hr okz
  · rw [List.length_map, pm.length_eq]
    have := gs.1
    exact size_ok (by omega)
theorem e_sortset {x y : Str} {p1 p2 p3 : Pos} (hu : X.A.units + 200 < cLine) (hc : X.calm = true) (hg : Gl X x) (hm : X.mg x = none) (hv : bootBuiltins x = some (.builtin "sorted")) (hn : x ≠ "__name__") (hdb : (x == ("__debug__" : Str)) = false) (hg2 : Gl X y) (hm2 : X.mg y = none) (hv2 : bootBuiltins y = some (.type "set")) (hn2 : y ≠ "__name__") (hdb2 : (y == ("__debug__" : Str)) = false)
    (hs : starEach [a] X.env = (false, eval a X.env) :: starEach [] X.env) (ha : PE X a (tE X.K cl Φ W ea)) :
    PE X (.Call (.Name x p1) [.Call (.Name y p2) [a] [] p3] [] pos) (tE X.K cl Φ W (.prim .sortset (.cons ea .nil))) :=
  (pe_callB (cr_soS hc hu) hg hm hv (pa_cons (pe_callTy (cr_mkS hc) hg2 hm2 hv2 (pa_cons ha pa_nil hs) hn2 hdb2 hs rfl) pa_nil rfl) hn hdb rfl rfl).imp fun σ H Q h => tE.imp (s_one (s_prim (nox_primF .sortset) (fun _ _ => rfl) h)) fun _ _ h => sortset_v h
end
end Ev

/-! Dt1: dicts with tuple keys: setdefault, of a list of pairs, the pairs one by one -/
namespace Ev
open PySem PySem.Spec PyProof.Rows L2
section
variable {X : Cx} {pins : List (Addr × Obj)} {σ : L2.St} {H : Hp} {s : Shared}
/-- the dict at a is another one now -/
theorem dt_wrote {a : Addr} {h' : Heap} {t' : Nat} {old new : List (List Key × V)} {xs : List (List Key × Addr × Value)} (I : L2.Inv X pins σ H s) (e : H a = some (.dT old)) (hs : Heap.SameBut a s.heap h') (hz : new.length ≤ sizeLine) (hd : (a == sysModules) = false) (kt : KT H new xs) (dd : h'.DictOfH (tupleKind (mixKind X.prog X.w)) a xs) :
    L2.Inv X pins σ (upd H a (.dT new)) { s with heap := h', toks := t' } := by
  obtain ⟨q, es, ep, hq, g1, g2, g3, _, g4⟩ := dd
  have mu : Mut (H a) := by rw [e]; trivial
  have kt' : KT (upd H a (.dT new)) new xs := kt.keeps fun c ys ec => (upd_ne (ne_of ec e (by intro z; cases z))).trans ec
  exact d_write I mu hs ⟨q, hq⟩ ⟨hz, hd, xs, kt', q, es, ep, hq, g1, g2, g3, g4⟩
theorem setd_dT {a b : Addr} {k : List Key} {kvs : List (List Key × V)} {d : V} {r : Value} {Q : Value → Shared → Prop} (hu : X.A.units + 1 < cLine) (I : L2.Inv X pins σ H s) (e : H a = some (.dT kvs)) (eb : H b = some (.tup (k.map kV))) (rd : RelV d r) (hl : kvs.length < sizeLine)
    (h1 : ∀ v, valV kvs k = some v → ∀ w' s', L2.Inv X pins σ H s' → RelV v w' → Q w' s') (h2 : valV kvs k = none → ∀ s', L2.Inv X pins σ (upd H a (.dT (putK kvs k d))) s' → Q r s') :
    wpAny (model X.prog X.w) X.A (call (.builtin "dict.setdefault") [.ref a, .ref b, r]) Q X.xe s := by
  obtain ⟨z, hd, xs, kt, dd⟩ := dt_of I.hok e
  have len : kvs.length = xs.length := Paired.length kt
  refine call_setdefault_heap (tupleKind_room_in1 hu) (key_of I.hok eb) hd dd (fun p hp => ?_) (fun hn h' dd' hs => ?_) (hsz := by omega)
  · have rel := kt.val k
    rw [hp] at rel
    cases ev : valV kvs k with
    | none => rw [ev] at rel; exact False.elim rel
    | some v => rw [ev] at rel; exact h1 v ev _ _ (I.tok _) rel
  · have rel := kt.val k
    rw [hn] at rel
    cases ev : valV kvs k with
    | some v => rw [ev] at rel; exact False.elim rel
    | none =>
      have := length_putK kvs k d
      exact h2 ev _ (dt_wrote I e hs (by omega) hd (kt.put k eb rd) dd')
end
/-- d.setdefault(y, z), the keys tuples -/
def tSetdT (td ty tx : TE) : TE := fun σ H Q => td σ H fun x H1 => ∃ a, x = .ref a ∧ IsD H1 a ∧ ty σ H1 fun y H2 => tx σ H2 fun z H3 => ∃ (kvs : List (List Key × V)) (k : List Key) (b : Addr), H3 a = some (.dT kvs) ∧ y = .ref b ∧ H3 b = some (.tup (k.map kV)) ∧ kvs.length < sizeLine ∧
  (∀ v, valV kvs k = some v → Q v H3) ∧ (valV kvs k = none → Q z (upd H3 a (.dT (putK kvs k z))))
theorem pe_setdT {X : Cx} {o e f : Expr} {td ty tx : TE} {apos cpos : Pos} (hu : X.A.units + 1 < cLine) (ho : PE X o td) (he : PE X e ty) (hf : PE X f tx) (m : M2 X o "setdefault" apos e f cpos) : PE X (.Call (.Attribute o "setdefault" apos) [e, f] [] cpos) (tSetdT td ty tx) := by
  refine ⟨fun pins s σ H Q I h => wpAny_Call_method m.base m.few m.line F.plainAttrs_dict F.slot_dict_setdefault F.type_dict_setdefault (thn (ho.run pins s σ H _ I h) ?_)⟩
  rintro u s1 ⟨x, H1, I1, rx, a, rfl, d, q1⟩
  cases (show u = Value.ref a from rx)
  obtain ⟨t1, t2, _⟩ := isD_at I1 d
  refine ⟨t1, t2, ?_⟩
  rw [m.trees]
  refine Calls.callWith_builtin rfl (Calls.evalArgs_plain (Calls.spliced_cons (thn (he.run pins s1 σ H1 _ I1 q1) ?_)))
  rintro iv s2 ⟨y, H2, I2, ry, q2⟩
  refine Calls.spliced_cons (thn (hf.run pins s2 σ H2 _ I2 q2) ?_)
  rintro fv s3 ⟨z, H3, I3, rz, kvs, k, b, ea, rfl, eb, hl, q3, q4⟩
  cases (show iv = Value.ref b from ry)
  exact Calls.spliced_nil (setd_dT hu I3 ea eb rz hl (fun v hv w' s4 I4 rw' => ⟨v, _, I4, rw', q3 v hv⟩) fun hn s4 I4 => ⟨z, _, I4, rz, q4 hn⟩)
/-! ### dict(pairs) -/
def mergeT (kvs more : List (List Key × V)) : List (List Key × V) := more.foldl (fun acc p => putK acc p.1 p.2) kvs
theorem mergeT_len : ∀ (more kvs : List (List Key × V)), (mergeT kvs more).length ≤ kvs.length + more.length
  | [], kvs => by simp [mergeT]
  | p :: more, kvs => by
    have h1 := mergeT_len more (putK kvs p.1 p.2)
    have h2 := length_putK kvs p.1 p.2
    show (mergeT (putK kvs p.1 p.2) more).length ≤ _
    rw [List.length_cons]
    omega
theorem kt_merge {H : Hp} : ∀ {more : List (List Key × V)} {ps : List (List Key × Addr × Value)} {kvs : List (List Key × V)} {xs : List (List Key × Addr × Value)}, KT H more ps → KT H kvs xs → KT H (mergeT kvs more) (storedAllH xs ps)
  | _, _, _, _, .nil, h => h
  | _, _, _, _, .cons (a := p) (b := q) ⟨e1, e2, e3⟩ t, h => by
    have hh := KT.put h p.1 e2 e3
    have := kt_merge t hh
    show KT H (mergeT (putK _ p.1 p.2) _) (storedAllH (storedH _ q.1 q.2.1 q.2.2) _)
    rw [← e1]
    exact this
/-- a list of pairs, each a tuple of a tuple and a value -/
def PrT (H : Hp) (p : Addr) (q : List Key × V) : Prop := ∃ b, Rd H p (.tup [.ref b, q.2]) ∧ H b = some (.tup (q.1.map kV))
section
variable {X : Cx} {pins : List (Addr × Obj)} {σ : L2.St} {H : Hp} {s : Shared}
theorem prt_of (I : L2.Inv X pins σ H s) : ∀ {ps : List Addr} {kvs : List (List Key × V)}, Paired (PrT H) ps kvs →
    ∃ xs : List (List Key × Addr × Value), KT H kvs xs ∧ xs.length = ps.length ∧ ∀ (j : Nat) (q : List Key × Addr × Value), xs[j]? = some q → ∃ p : Addr, ps[j]? = some p ∧ s.heap.IsTuple p #[.ref q.2.1, q.2.2]
  | _, _, .nil => ⟨[], .nil, rfl, fun j q e => by simp at e⟩
  | _, _, .cons (a := p) (b := kv) ⟨b, h1, h2⟩ t => by
    obtain ⟨xs, r, hl, hp⟩ := prt_of I t
    obtain ⟨_, its, rv, it⟩ : ObjOk X.prog X.w H s.heap p (.tup [.ref b, kv.2]) := h1.ok I.hok
    obtain ⟨u, y, rfl, ru, ry⟩ := vals2 rv
    cases (show u = Value.ref b from ru)
    refine ⟨(kv.1, b, y) :: xs, .cons ⟨rfl, h2, ry⟩ r, by simp [hl], fun j q e => ?_⟩
    cases j with
    | zero =>
      simp at e
      subst e
      exact ⟨p, rfl, it⟩
    | succ j =>
      obtain ⟨p', e1, e2⟩ := hp j q (by simpa using e)
      exact ⟨p', by simpa using e1, e2⟩
end
theorem cr_dictT {X : Cx} (hc : X.calm = true) (hu : X.A.units + 2 < cLine) : CallR X (.type "dict") (fun xs H Q => ∃ (a : Addr) (ps : List Addr) (kvs : List (List Key × V)), xs = [.ref a] ∧ SqL X.K H a (ps.map V.ref) ∧ Paired (PrT H) ps kvs ∧ ∀ p, H p = none → Q (.ref p) (upd H p (.dT (mergeT [] kvs)))) := by
  rintro pins s σ H xs us Q I r ⟨a, ps, kvs, rfl, hq, hp, q⟩
  obtain ⟨u, rfl, rx⟩ := vals1 r
  cases (show u = Value.ref a from rx)
  obtain ⟨its, rv, pl, hz⟩ := I.list hq
  cases refs_at rv
  obtain ⟨ys, kt, hl, hy⟩ := prt_of I hp
  obtain ⟨o, n, ho, hcl, hdn, hdat⟩ := pl
  rw [List.length_map] at hz
  have key : ∀ x ∈ ys, (tupleKind (mixKind X.prog X.w)).is s.heap x.1 x.2.1 := fun x hx => by
    obtain ⟨j, hj, rfl⟩ := List.mem_iff_getElem.mp hx
    obtain ⟨y, e1, e2⟩ : ∃ y, kvs[j]? = some y ∧ y.1 = ys[j].1 ∧ H ys[j].2.1 = some (.tup (y.1.map kV)) := by
      obtain ⟨y, h1, h2, h3, _⟩ := paired_at kt (List.getElem?_eq_getElem hj)
      exact ⟨y, h1, h2, h3⟩
    exact key_of I.hok (by rw [← e2.1]; exact e2.2)
  refine call_dict_pairsH (knd := tupleKind (mixKind X.prog X.w)) (ps := ys) (PairArg.list a (ps.map Value.ref).toArray (fun j => ps.getD j 0) (ys.map fun x => (Value.ref x.2.1, x.2.2))) (I.ok.hd hc) (tupleKind_room_in1 (A := X.A.in1) (by show X.A.units + 1 + 1 < cLine; omega)) ⟨⟨o, n, ho, hcl, hdn, hdat⟩, by simp [hl], fun j k v e => ?_⟩ ⟨by simp, fun j k v e => ?_⟩ (fun h' hk x hx => ?_) (by simp [hl]; exact hz) fun h' tk dd hk => ?_
  · rw [List.getElem?_map] at e
    cases ey : ys[j]? with
    | none => rw [ey] at e; cases e
    | some y =>
      rw [ey] at e
      cases e
      obtain ⟨p, e1, e2⟩ := hy j y ey
      have eg : ps.getD j 0 = p := by simp [List.getD, e1]
      refine ⟨by simp [e1], .inl ?_⟩
      show s.heap.IsTuple (ps.getD j 0) _
      rw [eg]
      exact e2
  · have e : (ys.map fun x => (Value.ref x.2.1, x.2.2))[j]? = some (k, v) := e
    rw [List.getElem?_map] at e
    cases ey : ys[j]? with
    | none => rw [ey] at e; cases e
    | some y =>
      rw [ey] at e
      cases e
      exact ⟨y.1, y.2.1, rfl, rfl⟩
  · obtain ⟨o1, its1, n1, k1, k2, k3, k4⟩ := key x hx
    exact ⟨o1, its1, n1, hk _ _ (Nat.ne_of_lt (Heap.lt_size k1)) (by simp) k1, k2, k3, k4⟩
  · have hm : (s.heap.objs.size == sysModules) = false := beq_eq_false_iff_ne.mpr (Nat.ne_of_gt I.big)
    have hlen := mergeT_len kvs []
    have hkl : kvs.length = ys.length := Paired.length kt
    have fr := I.hok.fresh (Nat.le_refl s.heap.objs.size)
    have kt2 : KT (upd H s.heap.objs.size (.dT (mergeT [] kvs))) (mergeT [] kvs) (storedAllH [] ys) := (kt_merge kt .nil).keeps fun c zs ec => (upd_ne (ne_of_none ec fr)).trans ec
    obtain ⟨q1, es, ep, hq1, g1, g2, g3, _, g4⟩ := dd
    exact ⟨.ref s.heap.objs.size, _, I.laid (t' := tk) (o := .dT (mergeT [] kvs)) (fun b ob e => hk b ob (by simp) e) (Nat.le_refl _) ⟨by simp at hlen; omega, hm, _, kt2, q1, es, ep, hq1, g1, g2, g3, g4⟩, rfl, q _ fr⟩
/-- dict(a tuple of pairs) -/
theorem cr_dictU {X : Cx} (hc : X.calm = true) (hu : X.A.units + 2 < cLine) : CallR X (.type "dict") (fun xs H Q => ∃ (a : Addr) (ps : List Addr) (kvs : List (List Key × V)), xs = [.ref a] ∧ (∃ o0, o0.dict = none ∧ H a = some (.frz o0 (.tup (ps.map V.ref)))) ∧ Paired (PrT H) ps kvs ∧ ∀ p, H p = none → Q (.ref p) (upd H p (.dT (mergeT [] kvs)))) := by
  rintro pins s σ H xs us Q I r ⟨a, ps, kvs, rfl, hq, hp, q⟩
  obtain ⟨u, rfl, rx⟩ := vals1 r
  cases (show u = Value.ref a from rx)
  obtain ⟨o, hdn, hq⟩ := hq
  obtain ⟨ho, hz, its, rv, o', ho', hcl, n, hdat⟩ := I.hok a _ hq
  rw [ho] at ho'
  cases ho'
  cases refs_at rv
  obtain ⟨ys, kt, hl, hy⟩ := prt_of I hp
  rw [List.length_map] at hz
  have key : ∀ x ∈ ys, (tupleKind (mixKind X.prog X.w)).is s.heap x.1 x.2.1 := fun x hx => by
    obtain ⟨j, hj, rfl⟩ := List.mem_iff_getElem.mp hx
    obtain ⟨y, e1, e2⟩ : ∃ y, kvs[j]? = some y ∧ y.1 = ys[j].1 ∧ H ys[j].2.1 = some (.tup (y.1.map kV)) := by
      obtain ⟨y, h1, h2, h3, _⟩ := paired_at kt (List.getElem?_eq_getElem hj)
      exact ⟨y, h1, h2, h3⟩
    exact key_of I.hok (by rw [← e2.1]; exact e2.2)
  refine call_dict_pairsH (knd := tupleKind (mixKind X.prog X.w)) (ps := ys) (PairArg.tuple a (ps.map Value.ref).toArray (fun j => ps.getD j 0) (ys.map fun x => (Value.ref x.2.1, x.2.2))) (I.ok.hd hc) (tupleKind_room_in1 (A := X.A.in1) (by show X.A.units + 1 + 1 < cLine; omega)) ⟨⟨o, n, ho, hcl, hdn, hdat⟩, by simp [hl], fun j k v e => ?_⟩ ⟨by simp, fun j k v e => ?_⟩ (fun h' hk x hx => ?_) (by simp [hl]; exact hz) fun h' tk dd hk => ?_
  · rw [List.getElem?_map] at e
    cases ey : ys[j]? with
    | none => rw [ey] at e; cases e
    | some y =>
      rw [ey] at e
      cases e
      obtain ⟨p, e1, e2⟩ := hy j y ey
      have eg : ps.getD j 0 = p := by simp [List.getD, e1]
      refine ⟨by simp [e1], .inl ?_⟩
      show s.heap.IsTuple (ps.getD j 0) _
      rw [eg]
      exact e2
  · have e : (ys.map fun x => (Value.ref x.2.1, x.2.2))[j]? = some (k, v) := e
    rw [List.getElem?_map] at e
    cases ey : ys[j]? with
    | none => rw [ey] at e; cases e
    | some y =>
      rw [ey] at e
      cases e
      exact ⟨y.1, y.2.1, rfl, rfl⟩
  · obtain ⟨o1, its1, n1, k1, k2, k3, k4⟩ := key x hx
    exact ⟨o1, its1, n1, hk _ _ (Nat.ne_of_lt (Heap.lt_size k1)) (by simp) k1, k2, k3, k4⟩
  · have hm : (s.heap.objs.size == sysModules) = false := beq_eq_false_iff_ne.mpr (Nat.ne_of_gt I.big)
    have hlen := mergeT_len kvs []
    have hkl : kvs.length = ys.length := Paired.length kt
    have fr := I.hok.fresh (Nat.le_refl s.heap.objs.size)
    have kt2 : KT (upd H s.heap.objs.size (.dT (mergeT [] kvs))) (mergeT [] kvs) (storedAllH [] ys) := (kt_merge kt .nil).keeps fun c zs ec => (upd_ne (ne_of_none ec fr)).trans ec
    obtain ⟨q1, es, ep, hq1, g1, g2, g3, _, g4⟩ := dd
    exact ⟨.ref s.heap.objs.size, _, I.laid (t' := tk) (o := .dT (mergeT [] kvs)) (fun b ob e => hk b ob (by simp) e) (Nat.le_refl _) ⟨by simp at hlen; omega, hm, _, kt2, q1, es, ep, hq1, g1, g2, g3, g4⟩, rfl, q _ fr⟩
end Ev

/-! Dt2: dicts with tuple keys: for k, v in d.items() -/
namespace Ev
open PySem PySem.Spec PyProof.Rows L2
section
variable {X : Cx} {pins : List (Addr × Obj)} {σ : L2.St} {H : Hp} {s : Shared} {d : Addr} {o : Obj}
/-- what is known of a locked dict -/
theorem frz_dT {kvs : List (List Key × V)} (I : L2.Inv X pins σ H s) (h : H d = some (.frz o (.dT kvs))) :
    (d == sysModules) = false ∧ s.heap.get? d = some o ∧ o.ExactDict ∧ ∃ (es : Array DictEntry) (ep : Nat), o.data = .dict es ep ∧ es.size = kvs.length ∧
      ∀ (i : Nat) (k : List Key) (v : V), kvs[i]? = some (k, v) → ∃ (en : DictEntry) (q : Addr), es[i]? = some en ∧ en.key = .ref q ∧ H q = some (.tup (k.map kV)) ∧ L2.RelV v en.val := by
  obtain ⟨g1, _, g3, xs, pr, o2, es, ep, g4, g5, g6, g7, _⟩ := I.hok d _ h
  rw [g1] at g4
  cases g4
  have l1 : es.size = xs.length := size_of_entries g7
  have l2 : kvs.length = xs.length := Paired.length pr
  refine ⟨g3, g1, g5, es, ep, g6, by omega, fun i k v e => ?_⟩
  obtain ⟨y, hy, e1, e2, e3⟩ := paired_get pr e
  have := entry_at g7 i
  rw [hy] at this
  exact ⟨_, y.2.1, this, rfl, e2, e3⟩
end
/-- the pairs of the locked dict at d, each a new tuple -/
def ItiT (d : Addr) (o : Obj) (kvs : List (List Key × V)) : L2.It :=
  ⟨fun i H => H d = some (.frz o (.dT kvs)) ∧ i < kvs.length, fun i H x H' => ∃ T k v q, kvs[i]? = some (k, v) ∧ x = .ref T ∧ H q = some (.tup (k.map kV)) ∧ H T = none ∧ H' = upd H T (.tup [.ref q, v]), fun i H => H d = some (.frz o (.dT kvs)) ∧ kvs.length ≤ i⟩
theorem turn_itT {P : Program} {w : World} {K : PySem.W.Frag} {d : Addr} {o : Obj} {es : Array DictEntry} {ep : Nat} {kvs : List (List Key × V)} {elts : List Expr} {kk : Nat} {tpos : Pos} (it : Addr) (hod : o.data = .dict es ep) :
    Turn P w K (.Tuple elts kk tpos) (ItiT d o kvs) [it] it (fun i h => ∃ ok ov, IsItemIter h it d i kvs.length ep ok ov) where
  mem := List.mem_singleton.mpr rfl
  obj := by
    rintro i h ⟨ok, ov, e⟩ b hb
    cases List.mem_singleton.mp hb
    exact ⟨_, e, fun v z => by cases z⟩
  keep := by
    rintro i h h' ⟨ok, ov, e⟩ k
    exact ⟨ok, ov, k it (List.mem_singleton.mpr rfl) _ e⟩
  item := by
    rintro X rfl rfl rfl hc i pins s σ H E I hf ⟨ok, ov, he⟩ ⟨hd, hi⟩
    obtain ⟨hs, hgd, hx, es', ep', hdt, hsz, ent⟩ := frz_dT I hd
    obtain ⟨rfl, rfl⟩ := dict_ep hod hdt
    obtain ⟨en, q, e1, e2, e3, e4⟩ := ent i kvs[i].1 kvs[i].2 (List.getElem?_eq_getElem hi)
    have hi' : i < es'.size := by omega
    have een : es'[i] = en := by
      rw [Array.getElem?_eq_getElem hi'] at e1
      exact Option.some.inj e1
    rw [← hsz] at he
    have hlt : it < s.heap.objs.size := Heap.lt_size he
    refine DT.nextI he ⟨o, hgd, hx, hdt⟩ hi' fun h' hout hT hz hk => ⟨_, rfl, wpAny_letOwnedTupleGo_items (s := { s with heap := h' }) hout fun h2 he2 sb => ?_⟩
    have hT2 : h2.get? s.heap.objs.size = some { cls := .type "tuple", data := .seq #[es'[i].key, es'[i].val] } := (sb.2 _ (Nat.ne_of_gt hlt)).trans hT
    have new : ObjOk X.prog X.w (upd H s.heap.objs.size (.tup [.ref q, kvs[i].2])) h2 s.heap.objs.size (.tup [.ref q, kvs[i].2]) := by
      refine ⟨show 2 ≤ sizeLine by decide, [es'[i].key, es'[i].val], .cons ?_ (.cons ?_ .nil), _, hT2, rfl, _, rfl⟩
      · rw [een, e2]
        rfl
      · rw [een]
        exact e4
    have I1 : L2.Inv X pins σ (upd H s.heap.objs.size (.tup [.ref q, kvs[i].2])) { s with heap := h2 } := I.turnedNew (t' := s.toks) (ch := [it]) (fun b ob hb e => by
      have hb' : b ≠ it := by simpa using hb
      exact (sb.2 b hb').trans (hk b ob hb' e)) hf (Nat.le_refl _) new
    have fr := I.hok.fresh (Nat.le_refl s.heap.objs.size)
    refine ⟨.ref s.heap.objs.size, _, I1, rfl, ⟨_, kvs[i].1, kvs[i].2, q, List.getElem?_eq_getElem hi, rfl, e3, fr, rfl⟩, ⟨es'[i].key, es'[i].val, ?_⟩, fun b hb => ?_⟩
    · rw [← hsz]
      exact he2
    · cases List.mem_singleton.mp hb
      rw [upd_ne (Nat.ne_of_lt hlt)]
      exact (hf it (List.mem_singleton.mpr rfl)).1
  done := by
    rintro X rfl rfl rfl hc i pins s σ H E I hf ⟨ok, ov, he⟩ ⟨hd, hi⟩
    obtain ⟨f0, f1, f2, f3, f4, f5⟩ := hf it (List.mem_singleton.mpr rfl)
    obtain ⟨hs, hgd, hx, es', ep', hdt, hsz, ent⟩ := frz_dT I hd
    obtain ⟨rfl, rfl⟩ := dict_ep hod hdt
    rw [← hsz] at he
    exact DT.endI (I.ok.hd hc) he ⟨o, hgd, hx, hdt⟩ (by omega) fun h' eb => ⟨rfl, I.turned (t' := s.toks) (fun b ob hb e => eb b ob hb e) f0 f1 f3 f4 f5⟩
  self := by
    rintro A i s Q E ⟨ok, ov, e⟩ h
    exact PySem.W.kcp_self e h
def iItemsT (td : TE) : TI := fun σ H R => td σ H fun x H1 => ∃ d o kvs, x = .ref d ∧ H1 d = some (.frz o (.dT kvs)) ∧ R (ItiT d o kvs) H1
theorem pi_itemsT {X : Cx} {e : Expr} {td : TE} {apos cpos : Pos} {elts : List Expr} {kk : Nat} {tpos : Pos} (he : PE X e td) (hbase : attributeBase e "items" X.env (eval e X.env) = eval e X.env) (hline : (apos.endLine == cpos.line) = true) :
    PI X (.Tuple elts kk tpos) (.Call (.Attribute e "items" apos) [] [] cpos) (iItemsT td) := by
  refine ⟨fun pins s σ H R I h => wpAny_Call_method (T := "dict") (id := "dict.items") hbase rfl hline F.plainAttrs_dict F.slot_dict_items F.type_dict_items (thn (he.run pins s σ H _ I h) ?_)⟩
  rintro u s1 ⟨x, H1, I1, rx, d, o, kvs, rfl, hd, q⟩
  cases (show u = Value.ref d from rx)
  obtain ⟨hs, hgd, hx, es, ep, hdt, hsz, ent⟩ := frz_dT I1 hd
  have raw : DT.Raw s1.heap d es ep := ⟨o, hgd, hx, hdt⟩
  refine ⟨raw.typeIs, fun a ea => ?_, ?_⟩
  · cases ea
    exact ⟨o, hgd, hx.2.1⟩
  have I2 : L2.Inv X pins σ H1 { s1 with heap := s1.heap.push { cls := .type "dict_items", data := .fields #[.ref d] } } := I1.kept (t' := s1.toks) fun b ob q => Heap.get?_push_of_some _ q
  refine method_meetsIn F.slot_dict_items F.entry_dict_items rfl (PySem.evalArgs_none ⟨rfl, raw.typeIs, F.args_dict_items_1 _, _, DT.meetsItems (es := es) (ep := ep) hs, ⟨raw, ?_⟩⟩)
  refine DT.iterI (d := d) ⟨_, Heap.get?_push_size _ rfl, rfl, rfl⟩ (raw.push _) ?_
  refine pi_one (tk := s1.toks) I2 _ (turn_itT _ hdt) ⟨.none, .none, ?_⟩ q
  rw [← hsz]
  exact Heap.get?_push_size _ rfl
end Ev

/-! Dt3: dicts with tuple keys: what the evaluator says of them holds -/
namespace Ev
open PySem PySem.Spec PyProof.Rows L2 RZ
section
variable {X : Cx} {cl : Nat → Value} {Φ : Calls} {W : WX} {a b c : Expr} {ea eb ec : E} {pos apos : Pos}
theorem isD_of {K : PySem.W.Frag} {al : List Addr} {fz : Addr → Prop} {H : Hp} {st : List Ob} {v : V} {r : R} (ok : Ok K al fz st H) (h : RR K al fz H v r) (e : isDict r st = true) : ∃ d, v = .ref d ∧ IsD H d := by
  unfold isDict at e
  cases e1 : dicOf st r with
  | some kvs =>
    obtain ⟨d, ks, rfl, hd, _⟩ := dicOf_ok ok h e1
    exact ⟨d, rfl, .inl ⟨ks, .inl hd⟩⟩
  | none =>
    cases e2 : ditOf st r with
    | some kvs =>
      obtain ⟨d, ks, rfl, hd, _⟩ := ditOf_ok ok h e2
      exact ⟨d, rfl, .inr ⟨ks, hd⟩⟩
    | none => rw [e1, e2] at e; cases e
theorem e_dnewT : PE X (.Dict [] [] pos) (tE X.K cl Φ W .dnewT) := pe_dnewT.imp fun σ H Q h => by
  obtain ⟨al, fz, st, env, ok, eo, h⟩ := h
  unfold evE at h
  have q : Post X.K al fz H (.f (.dit false [])) st Q := h
  intro p n
  have np : p ∉ al := fun m => by
    obtain ⟨b, _, r⟩ := ok.mem m
    exact r.some n
  have nf : ¬ fz p := fun m => by
    obtain ⟨ys, h⟩ := ok.trk p m
    obtain ⟨o, e, _⟩ := Rd.some h
    rw [n] at e
    cases e
  refine q _ _ fz (go_new n) (ok.new n) ⟨p, rfl, ⟨[], upd_same, Nat.zero_le _, .nil⟩, np, nf⟩ fun b a _ e => ?_
  cases e
  exact n
theorem get2_v {σ : L2.St} {H : Hp} {Q : VK} (h : tE X.K cl Φ W (.get2 ea eb ec) σ H Q) : tDGet2 (tE X.K cl Φ W ea) (tE X.K cl Φ W eb) (tE X.K cl Φ W ec) σ H Q := by
  obtain ⟨al, fz, st, env, ok, eo, h⟩ := h
  unfold evE at h
  refine tE.mk ok eo (Dn.bind h) fun r st1 v H1 fz1 p1 g1 ok1 eo1 rr1 fr1 => ?_
  by_cases cd : isDict r st1 = true
  · rw [if_pos cd] at p1
    obtain ⟨d, rfl, hd⟩ := isD_of ok1 rr1 cd
    refine ⟨d, rfl, hd, ?_⟩
    refine tE.mk ok1 eo1 ((Dn.bind p1).from g1) fun r2 st2 y H2 fz2 p2 g2 ok2 eo2 rr2 fr2 => ?_
    refine tE.mk ok2 eo2 ((Dn.bind p2).from (g1.trans g2)) fun r3 st3 z H3 fz3 p3 g3 ok3 eo3 rr3 fr3 => ?_
    have q1 := (rr1.kp ok1 g2).kp ok2 g3
    have q2 := rr2.kp ok2 g3
    have gg := g1.trans (g2.trans g3)
    unfold get2F at p3
    split at p3
    · rename_i k e
      have q2 : Rp X.K H3 fz3 y k := q2
      have q3 : Rp X.K H3 fz3 z e := rr3
      split at p3
      · rename_i kvs hk
        by_cases hs : (keyD k).isSome = true
        · rw [if_pos hs] at p3
          have p3 : Post X.K al fz H (.d ((dget kvs k).getD e)) st3 Q := p3
          obtain ⟨p, hp⟩ := key_of_isSome hs
          obtain ⟨d', ks, e', hH, _, pr⟩ := dicOf_ok ok3 q1 hk
          cases e'
          have ex := key_kV q2 hp
          have hv := dget_val hp pr
          refine ⟨valV ks p, by rw [ex]; exact .k hH, p3 _ H3 fz3 gg ok3 ?_ Fresh.d⟩
          show Rp X.K H3 fz3 _ _
          split at hv
          · rename_i d2 e2
            obtain ⟨w, e3, rw'⟩ := hv
            rw [e2, e3]
            exact rw'
          · rename_i e2
            rw [e2, hv]
            exact q3
        · rw [if_neg hs] at p3
          exact p3.elim
      · split at p3
        · rename_i kvs hk
          by_cases hs : (keyT k).isSome = true
          · rw [if_pos hs] at p3
            have p3 : Post X.K al fz H (.d ((dget kvs k).getD e)) st3 Q := p3
            obtain ⟨ds, p, rfl, hp, hpn⟩ := keyT_of hs
            obtain ⟨d', ks, e', hH, _, pr⟩ := ditOf_ok ok3 q1 hk
            cases e'
            obtain ⟨c', rfl, hc, _⟩ := key_tup q2 hp hpn
            have hv := dget_valT hp pr
            refine ⟨valV ks p, dgetT_of hH hc, p3 _ H3 fz3 gg ok3 ?_ Fresh.d⟩
            show Rp X.K H3 fz3 _ _
            split at hv
            · rename_i d2 e2
              obtain ⟨w, e3, rw'⟩ := hv
              rw [e2, e3]
              exact rw'
            · rename_i e2
              rw [e2, hv]
              exact q3
          · rw [if_neg hs] at p3
            exact p3.elim
        · exact p3.elim
    · exact p3.elim
  · rw [if_neg cd] at p1
    exact p1.elim
theorem e_get2 (hu : X.A.units + 1 < cLine) (ha : PE X a (tE X.K cl Φ W ea)) (hb : PE X b (tE X.K cl Φ W eb)) (hc : PE X c (tE X.K cl Φ W ec)) (m : M2 X a "get" apos b c pos) : PE X (.Call (.Attribute a "get" apos) [b, c] [] pos) (tE X.K cl Φ W (.get2 ea eb ec)) :=
  (pe_dget2 hu ha hb hc m).imp fun _ _ _ h => get2_v h
theorem setd_v {σ : L2.St} {H : Hp} {Q : VK} (h : tE X.K cl Φ W (.setd ea eb ec) σ H Q) : tSetdT (tE X.K cl Φ W ea) (tE X.K cl Φ W eb) (tE X.K cl Φ W ec) σ H Q := by
  obtain ⟨al, fz, st, env, ok, eo, h⟩ := h
  unfold evE at h
  refine tE.mk ok eo (Dn.bind h) fun r st1 v H1 fz1 p1 g1 ok1 eo1 rr1 fr1 => ?_
  by_cases cd : isDict r st1 = true
  · rw [if_pos cd] at p1
    obtain ⟨d, rfl, hd⟩ := isD_of ok1 rr1 cd
    refine ⟨d, rfl, hd, ?_⟩
    refine tE.mk ok1 eo1 ((Dn.bind p1).from g1) fun r2 st2 y H2 fz2 p2 g2 ok2 eo2 rr2 fr2 => ?_
    refine tE.mk ok2 eo2 ((Dn.bind p2).from (g1.trans g2)) fun r3 st3 z H3 fz3 p3 g3 ok3 eo3 rr3 fr3 => ?_
    have q1 := (rr1.kp ok1 g2).kp ok2 g3
    have q2 := rr2.kp ok2 g3
    have gg := g1.trans (g2.trans g3)
    unfold setdF at p3
    split at p3
    · rename_i i k e
      have q2 : Rp X.K H3 fz3 y k := q2
      have q3 : Rp X.K H3 fz3 z e := rr3
      obtain ⟨d', e', ha⟩ := q1
      cases e'
      split at p3
      · rename_i kvs hk
        by_cases hs : (keyT k).isSome = true ∧ kvs.length < 1000000
        · rw [if_pos hs] at p3
          obtain ⟨ds, p, rfl, hp, hpn⟩ := keyT_of hs.1
          obtain ⟨b', hb', rb⟩ := ok3.get ha
          rw [hk] at hb'
          cases hb'
          obtain ⟨ks, h1, hz, pr⟩ := rb
          obtain ⟨c', rfl, hc, hcz, hkv⟩ := key_tup q2 hp hpn
          have hv := dget_valT hp pr
          have hlen := paired_len pr
          refine ⟨ks, p, c', h1, rfl, hc, by rw [hlen]; exact Nat.lt_of_lt_of_le hs.2 (by decide), fun w hw => ?_, fun hw => ?_⟩
          · split at hv
            · rename_i d2 e2
              obtain ⟨w', e3, rw'⟩ := hv
              rw [hw] at e3
              cases e3
              rw [e2] at p3
              exact (show Post X.K al fz H (.d d2) st3 Q from p3) _ H3 fz3 gg ok3 rw' Fresh.d
            · rw [hv] at hw
              cases hw
          · split at hv
            · obtain ⟨w', e3, rw'⟩ := hv
              rw [hw] at e3
              cases e3
            · rename_i e2
              rw [e2] at p3
              obtain ⟨ok5, g5⟩ := ok3.updO (o := .dT (putK ks p z)) (b := .dit false (dput kvs (.tuple ds) e)) ha (fun q u e => by rw [h1] at e; cases e) fun kk => ⟨_, upd_same, by
                rw [paired_len (dput_putT hp hcz q3 hkv pr)]
                exact Nat.le_trans (dput_len _ _ _) (size_ok hs.2), paired_map (fun _ _ h => h.kp kk) (dput_putT hp hcz q3 hkv pr)⟩
              exact (show Post X.K al fz H (.d e) (st3.set i (.dit false (dput kvs (.tuple ds) e))) Q from p3) _ _ fz3 (gg.trans g5) ok5 (Rp.kp (ok3.kp g5) q3) Fresh.d
        · rw [if_neg hs] at p3
          exact p3.elim
      · exact p3.elim
    · exact p3.elim
  · rw [if_neg cd] at p1
    exact p1.elim
theorem e_setd (hu : X.A.units + 1 < cLine) (ha : PE X a (tE X.K cl Φ W ea)) (hb : PE X b (tE X.K cl Φ W eb)) (hc : PE X c (tE X.K cl Φ W ec)) (m : M2 X a "setdefault" apos b c pos) : PE X (.Call (.Attribute a "setdefault" apos) [b, c] [] pos) (tE X.K cl Φ W (.setd ea eb ec)) :=
  (pe_setdT hu ha hb hc m).imp fun _ _ _ h => setd_v h
/-! ### dict(pairs) -/
theorem pairsT_sub : ∀ {ds : List D} {ps : List (D × D)}, pairsT ds = some ps → subLike ds = true
  | [], _, _ => rfl
  | d :: ds, ps, h => by
    unfold pairsT at h
    split at h
    · rename_i heq
      cases heq
    · rename_i heq
      cases heq
      split at h
      · rename_i e2
        have := pairsT_sub e2
        simp only [subLike, List.all_cons] at this ⊢
        rw [this]
        rfl
      · cases h
    · cases h
theorem pairs_v {K : PySem.W.Frag} {H : Hp} {fz : Addr → Prop} : ∀ {ys : List V} {xs : List D} {ps : List (D × D)}, Rps K H fz ys xs → pairsT xs = some ps → ∃ (as : List Addr) (kvs : List (List Key × V)), ys = as.map V.ref ∧ Paired (PrT H) as kvs ∧ Paired (PairT K H fz) kvs ps
  | _, _, _, .nil, e => by cases e; exact ⟨[], [], rfl, .nil, .nil⟩
  | _, x :: xs, _, .cons h1 h2, e => by
    unfold pairsT at e
    split at e
    · rename_i heq
      cases heq
    · rename_i k d ds heq
      cases heq
      split at e
      · rename_i key r e1 e2
        cases e
        obtain ⟨as, kvs, rfl, q1, q2⟩ := pairs_v h2 e2
        obtain ⟨p, us, rfl, hp, _, hu⟩ := rp_tup h1
        cases hu with
        | cons u1 u2 =>
          cases u2 with
          | cons u2 u3 =>
            cases u3
            obtain ⟨zs, key', rfl, hk, hkn⟩ := keyT_of (show (keyT k).isSome = true by rw [e1]; rfl)
            obtain ⟨b, rfl, hb, hz, hkv⟩ := key_tup u1 hk hkn
            exact ⟨p :: as, (key', _) :: kvs, rfl, .cons ⟨b, hp.rd, hb⟩ q1, .cons ⟨zs, rfl, hk, hz, hkv, u2⟩ q2⟩
      · cases e
    · cases e
theorem merge_v {K : PySem.W.Frag} {H : Hp} {fz : Addr → Prop} : ∀ {more : List (List Key × V)} {ps : List (D × D)} {kvs : List (List Key × V)} {ds : List (D × D)}, Paired (PairT K H fz) more ps → Paired (PairT K H fz) kvs ds → Paired (PairT K H fz) (mergeT kvs more) (mergeD ds ps)
  | _, _, _, _, .nil, h => h
  | _, _, kvs, ds, .cons (a := p) (b := q) h1 t, h => by
    obtain ⟨zs, e1, e2, e3, e4, e5⟩ := h1
    have hh := dput_putT e2 e3 e5 e4 h
    have := merge_v t hh
    show Paired _ (mergeT (putK kvs p.1 p.2) _) (mergeD (dput ds q.1 q.2) _)
    rw [e1]
    exact this
theorem cr_dictE (hcm : X.calm = true) (hu : X.A.units + 2 < cLine) : CallR X (.type "dict") (fun vs H Q => PV X.K (primF .dictT) vs H Q ∧ vs.length = 1) := by
  intro pins s σ H xs us Q I r h
  obtain ⟨x, al, fz, st, r1, r0, st', rfl, ok, h1, e, q⟩ := pv1 h
  have e : dictF r1 st = .ok r0 st' := e
  unfold dictF at e
  split at e
  · rename_i ds hds
    split at e
    · rename_i ps hps
      obtain ⟨hl, e⟩ := if_ok e
      cases e
      obtain ⟨d, ys, rfl, hz, pr, hh⟩ := seqOf_ok ok h1 hds
      obtain ⟨as, kvs, rfl, q1, q2⟩ := pairs_v pr hps
      suffices fin : ∀ p, H p = none → Q (.ref p) (upd H p (.dT (mergeT [] kvs))) by
        rcases hh with ⟨hs, _⟩ | ⟨ht, _⟩
        · exact cr_dictT hcm hu pins s σ H _ us Q I r ⟨d, as, kvs, rfl, hs, q1, fin⟩
        · rcases ht with ⟨c, _⟩ | ⟨_, o, ho, hf⟩
          · rw [pairsT_sub hps] at c
            cases c
          · exact cr_dictU hcm hu pins s σ H _ us Q I r ⟨d, as, kvs, rfl, ⟨o, ho, hf⟩, q1, fin⟩
      intro p n
      have np : p ∉ al := fun m => by
        obtain ⟨b, _, r⟩ := ok.mem m
        exact r.some n
      have nf : ¬ fz p := fun m => by
        obtain ⟨ys, h⟩ := ok.trk p m
        obtain ⟨o, e, _⟩ := Rd.some h
        rw [n] at e
        cases e
      have hlen : (mergeT [] kvs).length ≤ sizeLine := by
        have h1 := mergeT_len kvs []
        have h2 := paired_len q1
        have h3 := pr.len
        simp at h1 h3
        exact Nat.le_trans (show (mergeT [] kvs).length ≤ 1000000 by omega) (by decide)
      refine q _ _ fz (go_new n) (ok.new n) ⟨p, rfl, ⟨mergeT [] kvs, upd_same, hlen, paired_map (fun _ _ h => h.kp (ok.kp (go_new n))) (merge_v q2 .nil)⟩, np, nf⟩ fun b a _ e => ?_
      cases e
      exact n
    · cases e
  · cases e
/-! ### a locked dict, key by key -/
theorem dkeys_v {v : Nat} {σ : L2.St} {H : Hp} {R : L2.It → Hp → Prop} (h : tI X.K cl Φ W (.dkeys v) σ H R) : iKeys (tE X.K cl Φ W (.var v)) σ H R := by
  obtain ⟨al, fz, st, env, ok, eo, h⟩ := h
  unfold evI at h
  split at h
  · rename_i i hv
    split at h
    · rename_i kvs hi
      have h : PostI X.K al fz H (kvs.map (·.1), some i) st R := h
      refine ⟨al, fz, st, env, ok, eo, ?_⟩
      unfold evE
      rw [hv]
      intro v' H' fz' g ok' rr fr
      obtain ⟨d, rfl, ha⟩ := rr
      obtain ⟨b, hb, r⟩ := ok'.get ha
      rw [hi] at hb
      cases hb
      obtain ⟨ks, ⟨o, ho⟩, z, pr⟩ := r
      refine ⟨d, o, rfl, .inr ⟨ks, ho, h H' fz' _ g ok' fun N hN => ?_⟩⟩
      have hN' := hN.go g
      have hl : (kvs.map (·.1)).length = ks.length := by rw [List.length_map, paired_len pr]
      refine ⟨by rw [hl]; exact z, _, _, by rw [hl]; exact walk_keysT, fun al2 st2 H2 fz2 gx ok2 sm => ⟨gx.lk _ _ _ ho fun n => (hN' d n).1 (List.mem_of_getElem? ha), fun j dd x H3 hd y => ?_⟩⟩
      obtain ⟨rfl, k, w, q, hk, rfl, hq⟩ := y
      refine ⟨fz2, Go.refl, ok2, ?_⟩
      obtain ⟨y', hy', pt⟩ := paired_at' pr hk
      rw [List.getElem?_map, hy'] at hd
      cases hd
      obtain ⟨zs, e1, e2, e3, e4, e5⟩ := pt
      show Rp X.K _ fz2 (.ref q) y'.1
      rw [e1]
      exact .tup (.inl ⟨keyTs_sub e2 e3.2, hq⟩) (by simpa using e3.1) (Rps.kp (ok'.kpS hN' gx) e4)
    · exact h.elim
  · exact h.elim
theorem i_dkeys {v : Nat} {tg : Expr} (ha : PE X a (tE X.K cl Φ W (.var v))) : PI X tg a (tI X.K cl Φ W (.dkeys v)) := (pi_keys ha).imp fun _ _ _ h => dkeys_v h
theorem walk_itT {d : Addr} {o : Obj} {kvs : List (List Key × V)} : Walk (ItiT d o kvs) kvs.length (fun H => H d = some (.frz o (.dT kvs))) (fun i H x H' => ∃ T k v q, kvs[i]? = some (k, v) ∧ x = .ref T ∧ H q = some (.tup (k.map kV)) ∧ H T = none ∧ H' = upd H T (.tup [.ref q, v])) :=
  ⟨fun _ _ hi g => ⟨g, hi⟩, fun _ g => ⟨g, Nat.le_refl _⟩, fun _ _ _ _ _ _ y => y⟩
theorem ditems_v {v : Nat} {σ : L2.St} {H : Hp} {R : L2.It → Hp → Prop} (h : tI X.K cl Φ W (.ditems v) σ H R) : iItemsT (tE X.K cl Φ W (.var v)) σ H R := by
  obtain ⟨al, fz, st, env, ok, eo, h⟩ := h
  unfold evI at h
  split at h
  · rename_i i hv
    split at h
    · rename_i kvs hi
      have hg : (kvs.all fun p => prOk p.1 p.2) = true := by
        by_cases c : (kvs.all fun p => prOk p.1 p.2) = true
        · exact c
        · rw [if_neg c] at h
          exact h.elim
      rw [if_pos hg] at h
      have h : PostI X.K al fz H (kvs.map fun p => PyData.tuple [p.1, p.2], some i) st R := h
      refine ⟨al, fz, st, env, ok, eo, ?_⟩
      unfold evE
      rw [hv]
      intro v' H' fz' g ok' rr fr
      obtain ⟨d, rfl, ha⟩ := rr
      obtain ⟨b, hb, r⟩ := ok'.get ha
      rw [hi] at hb
      cases hb
      obtain ⟨ks, ⟨o, ho⟩, z, pr⟩ := r
      refine ⟨d, o, ks, rfl, ho, h H' fz' _ g ok' fun N hN => ?_⟩
      have hN' := hN.go g
      have hl : (kvs.map fun p => PyData.tuple [p.1, p.2]).length = ks.length := by rw [List.length_map, paired_len pr]
      refine ⟨by rw [hl]; exact z, _, _, by rw [hl]; exact walk_itT, fun al2 st2 H2 fz2 gx ok2 sm => ⟨gx.lk _ _ _ ho fun n => (hN' d n).1 (List.mem_of_getElem? ha), fun j dd x H3 hd y => ?_⟩⟩
      obtain ⟨T, k, w, q, hk, rfl, hq, hT, rfl⟩ := y
      obtain ⟨y', hy', pt⟩ := paired_at' pr hk
      rw [List.getElem?_map, hy'] at hd
      cases hd
      have hp1 : prOk y'.1 y'.2 = true := List.all_eq_true.mp hg y' (List.mem_of_getElem? hy')
      obtain ⟨zs, e1, e2, e3, e4, e5⟩ := pt
      have kp := ok'.kpS hN' gx
      show ∃ fz3, Go al2 fz2 H2 fz3 _ ∧ Ok X.K al2 fz3 st2 _ ∧ Rp X.K _ fz3 (.ref T) (.tuple [y'.1, y'.2])
      rw [e1] at hp1 ⊢
      exact pair_ok ok2 hT (.tup (.inl ⟨keyTs_sub e2 e3.2, hq⟩) (by simpa using e3.1) (Rps.kp kp e4)) (e5.kp kp) hp1
    · exact h.elim
  · exact h.elim
theorem i_ditems {v : Nat} {elts : List Expr} {kk : Nat} {tpos : Pos} (ha : PE X a (tE X.K cl Φ W (.var v))) (hb : attributeBase a "items" X.env (eval a X.env) = eval a X.env) (hl : (apos.endLine == pos.line) = true) :
    PI X (.Tuple elts kk tpos) (.Call (.Attribute a "items" apos) [] [] pos) (tI X.K cl Φ W (.ditems v)) := (pi_itemsT ha hb hl).imp fun _ _ _ h => ditems_v h
/-! ### the lock -/
theorem EnvO.kpK {K : PySem.W.Frag} {al : List Addr} {fz fz' : Addr → Prop} {H H' : Hp} {σ : L2.St} {env : Envr} (e : EnvO K al fz H σ env) (k : Kp H fz H' fz') : EnvO K al fz' H' σ env :=
  ⟨e.len, fun i r h => ⟨(e.at_ i r h).1, by
    obtain ⟨v, h1, h2⟩ := (e.at_ i r h).2
    refine ⟨v, h1, ?_⟩
    cases r with
    | d x => exact Rp.kp k h2
    | o i => exact h2
    | f b => exact absurd rfl ((e.at_ i _ h).1 b)⟩⟩
theorem unlock_go {al : List Addr} {fz fz' : Addr → Prop} {H H' : Hp} {d : Addr} {ks : List (List Key × V)} {od : Obj} (m : d ∈ al) (hd : H d = some (.dT ks)) (g : Go al fz (L2.upd H d (.frz od (.dT ks))) fz' H') : Go al fz H fz' (L2.upd H' d (.dT ks)) := by
  refine ⟨fun a o h n => ?_, fun a h => ?_, g.sub, fun a h => ?_, fun a o u h => ?_⟩
  · have ne : a ≠ d := fun e => n (e ▸ m)
    rw [upd_ne ne]
    exact g.keep a o (by rw [upd_ne ne]; exact h) n
  · by_cases e : a = d
    · rw [e, upd_same]
      simp
    · rw [upd_ne e]
      exact g.there a (by rw [upd_ne e]; exact h)
  · rcases g.new a h with h | h
    · exact .inl h
    · by_cases e : a = d
      · rw [e, upd_same] at h
        cases h
      · rw [upd_ne e] at h
        exact .inr h
  · have ne : a ≠ d := fun e => by
      rw [e, hd] at h
      cases h
    rw [upd_ne ne]
    exact g.lk a o u (by rw [upd_ne ne]; exact h)
theorem kp_unlock {K : PySem.W.Frag} {al : List Addr} {fz : Addr → Prop} {H : Hp} {st : List Ob} {d : Addr} {o : HO} (ok : Ok K al fz st H) (m : d ∈ al) : Kp H fz (L2.upd H d o) fz := kp_upd ok m
theorem RR.kpK {K : PySem.W.Frag} {al : List Addr} {fz : Addr → Prop} {H : Hp} {st : List Ob} {d : Addr} {o : HO} {v : V} {r : R} (ok : Ok K al fz st H) (m : d ∈ al) (h : RR K al fz H v r) : RR K al fz (L2.upd H d o) v r := by
  have k := kp_upd ok (o := o) m
  cases r with
  | d x => exact Rp.kp k h
  | o i => exact h
  | f b =>
    obtain ⟨a, e, q, n, nf⟩ := h
    exact ⟨a, e, q.kp k (upd_ne fun e2 => n (by rw [e2]; exact m)), n, nf⟩
theorem lock_at {env : Envr} {v : Nat} {st : List Ob} {i : Nat} {kvs : List (D × D)} (h : lockO env v st = some (i, kvs)) : env[v]? = some (some (.o i)) ∧ st[i]? = some (.dit false kvs) := by
  unfold lockO at h
  split at h
  · rename_i j hv
    split at h
    · rename_i ks hi
      cases h
      exact ⟨hv, hi⟩
    · cases h
  · cases h
/-- what holds ahead of a lock and in it -/
theorem lock_in {K : PySem.W.Frag} {al : List Addr} {fz : Addr → Prop} {H : Hp} {σ : L2.St} {env : Envr} {st : List Ob} {v i : Nat} {kvs : List (D × D)} (ok : Ok K al fz st H) (eo : EnvO K al fz H σ env) (h : lockO env v st = some (i, kvs)) :
    ∃ d ks, al[i]? = some d ∧ H d = some (.dT ks) ∧ ∀ od, Ok K al fz (st.set i (.dit true kvs)) (L2.upd H d (.frz od (.dT ks))) ∧ EnvO K al fz (L2.upd H d (.frz od (.dT ks))) σ env := by
  obtain ⟨hv, hi⟩ := lock_at h
  obtain ⟨_, w, _, d, _, ha⟩ := eo.at_ v _ hv
  obtain ⟨b, hb, r⟩ := ok.get ha
  rw [hi] at hb
  cases hb
  obtain ⟨ks, h1, h2, h3⟩ := r
  have m : d ∈ al := List.mem_of_getElem? ha
  refine ⟨d, ks, ha, h1, fun od => ?_⟩
  have k := kp_upd ok (o := .frz od (.dT ks)) m
  exact ⟨ok.upd ha ⟨ks, ⟨od, upd_same⟩, h2, paired_map (fun _ _ h => h.kp k) h3⟩, eo.kpK k⟩
theorem lock_out {K : PySem.W.Frag} {al : List Addr} {fz : Addr → Prop} {H : Hp} {st : List Ob} {i : Nat} {d : Addr} {ks : List (List Key × V)} {od : Obj} {kvs : List (D × D)} (ok : Ok K al fz st H) (ha : al[i]? = some d) (hd : H d = some (.frz od (.dT ks))) (hi : st[i]? = some (.dit true kvs)) :
    Ok K al fz (st.set i (.dit false kvs)) (L2.upd H d (.dT ks)) := by
  obtain ⟨b, hb, r⟩ := ok.get ha
  rw [hi] at hb
  cases hb
  obtain ⟨ks', ⟨o', h1⟩, h2, h3⟩ := r
  rw [hd] at h1
  cases h1
  have m : d ∈ al := List.mem_of_getElem? ha
  have k := kp_upd ok (o := .dT ks) m
  exact ok.upd ha ⟨ks, upd_same, h2, paired_map (fun _ _ h => h.kp k) h3⟩
theorem lock_v {v : Nat} {σ : L2.St} {H : Hp} {Q : VK} (h : tE X.K cl Φ W (.lock v ea) σ H Q) : tLockE (tE X.K cl Φ W ea) σ H Q := by
  obtain ⟨al, fz, st, env, ok, eo, h⟩ := h
  unfold evE at h
  split at h
  · rename_i i kvs hl
    obtain ⟨d, ks, ha, hd, hin⟩ := lock_in ok eo hl
    have m : d ∈ al := List.mem_of_getElem? ha
    refine ⟨d, .dT ks, hd, trivial, fun od => ⟨al, fz, _, env, (hin od).1, (hin od).2, ?_⟩⟩
    cases e : evE Φ ea env (st.set i (.dit true kvs)) with
    | ok r st2 =>
      rw [e] at h
      unfold unE at h
      dsimp only at h
      split at h
      · rename_i kvs' hi
        have h : Post X.K al fz H r (st2.set i (.dit false kvs')) Q := h
        intro v' H' fz' g ok' rr fr
        have hd' : H' d = some (.frz od (.dT ks)) := g.lk d od _ upd_same
        refine ⟨hd', h v' _ fz' (unlock_go m hd g) (lock_out ok' ha hd' hi) (rr.kpK ok' m) fun b a e1 e2 => ?_⟩
        have := fr b a e1 e2
        by_cases ed : a = d
        · rw [ed, upd_same] at this
          cases this
        · rw [upd_ne ed] at this
          exact this
      · exact h.elim
    | exc k st2 =>
      rw [e] at h
      exact h.elim
    | err =>
      rw [e] at h
      exact h.elim
  · exact h.elim
theorem e_lock {v : Nat} (ha : PE X a (tE X.K cl Φ W ea)) : PE X a (tE X.K cl Φ W (.lock v ea)) := (pe_lock ha).imp fun _ _ _ h => lock_v h
theorem lockS_v {v : Nat} {s : S} {D : Ends} {σ : L2.St} {H : Hp} (h : tS X.K cl Φ W (.lock v s) D σ H) : tLock (tS X.K cl Φ W s) D σ H := by
  obtain ⟨al, fz, st, env, ok, eo, h⟩ := h
  unfold exS at h
  split at h
  · rename_i i kvs hl
    obtain ⟨d, ks, ha, hd, hin⟩ := lock_in ok eo hl
    have m : d ∈ al := List.mem_of_getElem? ha
    refine ⟨d, .dT ks, hd, trivial, fun od => ⟨al, fz, _, env, (hin od).1, (hin od).2, ?_⟩⟩
    cases e : exS Φ s env (st.set i (.dit true kvs)) with
    | next env2 st2 =>
      rw [e] at h
      unfold unS at h
      dsimp only at h
      split at h
      · rename_i kvs' hi
        intro al' H' fz' σ' g ok' eo'
        have hd' : H' d = some (.frz od (.dT ks)) := g.go.lk d od _ upd_same
        obtain ⟨⟨ex, rfl, hex⟩, go⟩ := g
        have ha' : (al ++ ex)[i]? = some d := Ext.get rfl ha
        have m' : d ∈ al ++ ex := List.mem_append_left _ m
        refine ⟨hd', h (al ++ ex) _ fz' σ' ⟨⟨ex, rfl, fun a ha => ?_⟩, unlock_go m hd go⟩ (lock_out ok' ha' hd' hi) (eo'.kpK (kp_upd ok' m'))⟩
        have := hex a ha
        by_cases ed : a = d
        · rw [ed, upd_same] at this
          cases this
        · rw [upd_ne ed] at this
          exact this
      · exact h.elim
    | ret r st2 =>
      rw [e] at h
      unfold unS at h
      dsimp only at h
      split at h
      · rename_i kvs' hi
        intro v' al' H' fz' g ok' rr fr
        have hd' : H' d = some (.frz od (.dT ks)) := g.go.lk d od _ upd_same
        obtain ⟨⟨ex, rfl, hex⟩, go⟩ := g
        have ha' : (al ++ ex)[i]? = some d := Ext.get rfl ha
        have m' : d ∈ al ++ ex := List.mem_append_left _ m
        have back : ∀ a, L2.upd H d (.frz od (.dT ks)) a = none → H a = none := fun a this => by
          by_cases ed : a = d
          · rw [ed, upd_same] at this
            cases this
          · rw [upd_ne ed] at this
            exact this
        exact ⟨hd', h v' (al ++ ex) _ fz' ⟨⟨ex, rfl, fun a ha => back a (hex a ha)⟩, unlock_go m hd go⟩ (lock_out ok' ha' hd' hi) (rr.kpK ok' m') fun b a e1 e2 => back a (fr b a e1 e2)⟩
      · exact h.elim
    | brk env2 st2 =>
      rw [e] at h
      exact h.elim
    | cont env2 st2 =>
      rw [e] at h
      exact h.elim
    | exc k env2 st2 =>
      rw [e] at h
      exact h.elim
    | err =>
      rw [e] at h
      exact h.elim
  · exact h.elim
theorem s_lock {v : Nat} {s : Stmt} {es : S} (h : PS X s (tS X.K cl Φ W es)) : PS X s (tS X.K cl Φ W (.lock v es)) := (ps_lock h).imp fun _ _ _ h => lockS_v h
end
end Ev

/-! Ev17: from the text to the small syntax: expressions -/
namespace Ev
open PySem PySem.Spec PyProof.Rows L2 RZ
structure CC where
  N : List Str
  sc : Scope
  fn : Str → Bool
  calm : Bool
  fns : List (Str × Nat × List Str)
  kws : List (Str × Nat)
  cons : List (Str × Str)
  exs : List Str
  cats : List (List Nat)
  free : List Str
  /-- names that hold dicts with tuple keys -/
  dn : List Str := []
/-- what is known of an own function -/
structure FnF (X : Cx) (cl : Nat → Value) (Φ : Calls) (k : Nat) (x : Str) (i : Nat) (ps : List Str) (kws : List (Str × Nat)) : Prop where
  ex : ∃ fa fd, FnOk X.prog X.w X.K X.mg X.base (L2.CX X.prog X.w) k fa fd ps (spF X.K cl Φ i ps.length) ∧ X.mg x = some (.ref fa) ∧ PySem.W.keepIn X.K (.ref fa) = true ∧ Binds X.K fd ps [] ∧
    ∀ n, (x, n) ∈ kws → KBn X.K fd ps n (ps.drop n) (fun us ws => us ++ ws) (fun vs zs => vs ++ zs)
structure ExF (X : Cx) (cl : Nat → Value) (i : Nat) (x : Str) : Prop where
  ex : ∃ C B newId initId bmB, ExcBaseFacts B newId initId bmB ∧ PySem.W.excIn X.K C bmB newId = true ∧ X.mg x = some (.ref C) ∧ PySem.W.keepIn X.K (.ref C) = true ∧ Raises X (.ref C) ∧ cl i = .ref C
structure Gd (X : Cx) (cc : CC) (cl : Nat → Value) (Φ : Calls) (k : Nat) : Prop where
  N : X.N = cc.N
  nd : X.N.Nodup
  sc : X.env.scope = cc.sc
  kind : X.env.scope.kind = .function
  fn : X.fn = cc.fn
  calm : cc.calm = true → X.calm = true
  room : Room k X.A ∨ (cc.calm = false ∧ X.A.units + 200 < cLine)
  fns : ∀ x i ps, (x, i, ps) ∈ cc.fns → FnF X cl Φ k x i ps cc.kws
  cons : ∀ x t, (x, t) ∈ cc.cons → ∃ u, X.mg x = some u ∧ L2.RelV (.str t) u
  free : ∀ x, x ∈ cc.free → X.mg x = none
  exs : ∀ i x, cc.exs[i]? = some x → ExF X cl i x
  cats : ∀ j cs, cc.cats[j]? = some cs → ∀ k, k < cc.exs.length → PySem.W.exmOne X.K (cl k) (cl j) = some (decide (k ∈ cs))
theorem Gd.un {X : Cx} {cc : CC} {cl : Nat → Value} {Φ : Calls} {k : Nat} (g : Gd X cc cl Φ k) : X.A.units + 200 < cLine := by
  rcases g.room with h | h
  · have := h.un
    omega
  · exact h.2
def CC.gl (cc : CC) (x : Str) : Bool := decide (cc.sc.names.lookup x = some .globalImplicit)
theorem Gd.gl {X : Cx} {cc : CC} {cl : Nat → Value} {Φ : Calls} {k : Nat} (g : Gd X cc cl Φ k) {x : Str} (h : cc.gl x = true) : Gl X x := by
  show X.env.scope.names.lookup x = some .globalImplicit
  rw [g.sc]
  exact of_decide_eq_true h
def CC.vis (cc : CC) (x : Str) : Bool := match cc.sc.names.lookup x with
  | some .local => true
  | some .cell => true
  | some .free => true
  | _ => false
theorem Gd.vis {X : Cx} {cc : CC} {cl : Nat → Value} {Φ : Calls} {k : Nat} (g : Gd X cc cl Φ k) {x : Str} (h : cc.vis x = true) : Vis X.env.scope x := by
  unfold Vis
  rw [g.sc]
  unfold CC.vis at h
  split at h
  · rename_i e; exact .inl e
  · rename_i e; exact .inr (.inl e)
  · rename_i e; exact .inr (.inr e)
  · cases h
def CC.loc (cc : CC) (x : Str) : Bool := match cc.sc.names.lookup x with
  | some .local => true
  | some .cell => cc.fn x
  | _ => false
theorem Gd.loc {X : Cx} {cc : CC} {cl : Nat → Value} {Φ : Calls} {k : Nat} (g : Gd X cc cl Φ k) {x : Str} (h : cc.loc x = true) : L2.Loc X.env.scope x ∧ (X.fn x = true ∨ X.env.scope.names.lookup x = some .local) := by
  unfold L2.Loc
  rw [g.sc, g.fn]
  unfold CC.loc at h
  split at h
  · rename_i e; exact ⟨.inl e, .inr e⟩
  · rename_i e; exact ⟨.inr e, .inl h⟩
  · cases h
def findN (x : Str) : List Str → Nat → Option Nat
  | [], _ => none
  | y :: ys, i => if x = y then some i else findN x ys (i + 1)
def notStar : Expr → Bool
  | .Starred _ _ => false
  | _ => true
theorem star1 {a : Expr} {es : List Expr} {env : Env} (h : notStar a = true) : starEach (a :: es) env = (false, eval a env) :: starEach es env := by
  cases a <;> first | rfl | cases h
theorem star_any {env : Env} {pos : Pos} : ∀ {es : List Expr}, es.all notStar = true → (backTo pos (starEach es env)).any (·.1) = false
  | [], _ => rfl
  | a :: es, h => by
    rw [List.all_cons, Bool.and_eq_true] at h
    rw [star1 h.1]
    exact star_any h.2
def plainIx : Expr → Bool
  | .Slice _ _ _ _ => false
  | _ => true
theorem plainIx_ok {b : Expr} (h : plainIx b = true) : PlainIx b := by
  intro o i
  cases b <;> first | rfl | cases h
def notIf : Expr → Bool
  | .IfExp _ _ _ _ => false
  | _ => true
/-- an expression whose truth is its value's -/
def plainT : Expr → Bool
  | .UnaryOp .Not _ _ => false
  | .BoolOp _ _ _ => false
  | .IfExp _ _ _ _ => false
  | .Compare _ _ _ _ => false
  | _ => true
theorem plainT_ok {e : Expr} {env : Env} (h : plainT e = true) : ∀ whole, isTrue e env whole = (do let v ← whole; standAt e.pos; holding [v] (truthy v)) := by
  intro whole
  cases e <;> first | rfl | cases h | skip
  rename_i op x p
  cases op <;> first | rfl | cases h
def notSet : Expr → Bool
  | .Set _ _ _ => false
  | _ => true
theorem fold_ok {e : Expr} {env : Env} (h : notSet e = true) : ∀ x, foldedSetIterable e env x = pure x := by
  intro x
  cases e <;> first | rfl | cases h
def notComp : Expr → Bool
  | .ListComp _ _ _ _ => false
  | .SetComp _ _ _ _ => false
  | .DictComp _ _ _ _ _ => false
  | _ => true
theorem swap_ok {e : Expr} {t : Option Expr} {l : Nat} {env : Env} (h : notComp e = true) : swapsWith e t l env = pure false := by
  cases e <;> first | rfl | cases h
/-- what an expression becomes -/
structure OkE (cc : CC) (e : Expr) where
  E : Ev.E
  pe : ∀ (X : Cx) (cl : Nat → Value) (Φ : Calls) (k : Nat) (W : WX), Gd X cc cl Φ k → Takes X W → PE X e (tE X.K cl Φ W E)
  pt : notIf e = true → ∀ (X : Cx) (cl : Nat → Value) (Φ : Calls) (k : Nat) (W : WX), Gd X cc cl Φ k → Takes X W → PT X e (tT X.K cl Φ W E)
/-- its truth is its value's -/
def plainE {cc : CC} {e : Expr} (ee : E) (h : plainT e = true) (pe : ∀ (X : Cx) (cl : Nat → Value) (Φ : Calls) (k : Nat) (W : WX), Gd X cc cl Φ k → Takes X W → PE X e (tE X.K cl Φ W ee)) : OkE cc e :=
  ⟨ee, pe, fun _ X cl Φ k W g tk => t_val (pe X cl Φ k W g tk) (plainT_ok h)⟩
structure OkEs (cc : CC) (es : List Expr) where
  E : Es
  ns : es.all notStar = true
  ln : E.len = es.length
  pa : ∀ (X : Cx) (cl : Nat → Value) (Φ : Calls) (k : Nat) (W : WX), Gd X cc cl Φ k → Takes X W → PA X es (tAll X.K cl Φ W E)
structure OkI (cc : CC) (tg it : Expr) where
  I : It
  ns : notSet it = true
  pi : ∀ (X : Cx) (cl : Nat → Value) (Φ : Calls) (k : Nat) (W : WX), Gd X cc cl Φ k → Takes X W → PI X tg it (tI X.K cl Φ W I)
structure OkG (cc : CC) (tg : Expr) where
  G : Tg
  pg : ∀ (X : Cx) (cl : Nat → Value) (Φ : Calls) (k : Nat), Gd X cc cl Φ k → PG X tg (gOf X.K G)
def cName (cc : CC) (x : Str) (pos : Pos) : Option (OkE cc (.Name x pos)) :=
  if h : (!(x == ("__debug__" : Str)) && !(x == ("__classdict__" : Str))) = true then
    match hf : findN x cc.N 0 with
    | some i => if h2 : cc.N[i]? = some x ∧ cc.vis x = true then
        some (plainE (.var i) rfl fun X cl Φ k W g tk => e_var (by rw [g.N]; exact h2.1) (g.vis h2.2) (by simp at h; simpa using h.1) (by simp at h; simpa using h.2))
      else none
    | none => match hc : cc.cons.lookup x with
      | some t => if h3 : cc.gl x = true ∧ okS t = true then
          some (plainE (.dat (.str t)) rfl fun X cl Φ k W g tk => by
            obtain ⟨u, e1, e2⟩ := g.cons x t (PySem.mem_of_lookup hc)
            exact e_dat (pe_glob (g.gl h3.1) e1 e2 (by simp at h; simpa using h.1)) fun _ _ => .str t h3.2)
        else none
      | none => none
  else none
def cConst (cc : CC) (c : Const) (j : Nat) (pos : Pos) : Option (OkE cc (.Constant c j pos)) := match c with
  | .int i => some (plainE (.dat (.int i)) rfl fun X cl Φ k W g tk => e_dat pe_int fun _ _ => .int i)
  | .bool b => some (plainE (.dat (.bool b)) rfl fun X cl Φ k W g tk => e_dat pe_bl fun _ _ => .bl b)
  | .none => some (plainE (.dat .none) rfl fun X cl Φ k W g tk => e_dat pe_non fun _ _ => .non)
  | .str t => if h : okS t = true then some (plainE (.dat (.str t)) rfl fun X cl Φ k W g tk => e_dat pe_str fun _ _ => .str t h) else none
  | _ => none
end Ev

/-! Ev18: from the text to the small syntax: the nodes -/
namespace Ev
open PySem PySem.Spec PyProof.Rows L2 RZ
section
variable {cc : CC} {a b c : Expr} {pos p1 p2 p3 : Pos} {es : List Expr}
/-! ### operators -/
def cBin (A : OkE cc a) (B : OkE cc b) : (op : Operator) → Option (OkE cc (.BinOp a op b pos))
  | .Add => some (plainE (.prim .add (.cons A.E (.cons B.E .nil))) rfl fun X cl Φ k W g tk => e_bin op_addE (A.pe X cl Φ k W g tk) (B.pe X cl Φ k W g tk))
  | .Sub => some (plainE (.prim .sub (.cons A.E (.cons B.E .nil))) rfl fun X cl Φ k W g tk => e_bin op_subE (A.pe X cl Φ k W g tk) (B.pe X cl Φ k W g tk))
  | .Mult => some (plainE (.prim .mul (.cons A.E (.cons B.E .nil))) rfl fun X cl Φ k W g tk => e_bin op_mulE (A.pe X cl Φ k W g tk) (B.pe X cl Φ k W g tk))
  | .FloorDiv => some (plainE (.prim .fdiv (.cons A.E (.cons B.E .nil))) rfl fun X cl Φ k W g tk => e_bin op_fdivE (A.pe X cl Φ k W g tk) (B.pe X cl Φ k W g tk))
  | .Mod => some (plainE (.prim .mod (.cons A.E (.cons B.E .nil))) rfl fun X cl Φ k W g tk => e_bin op_modE (A.pe X cl Φ k W g tk) (B.pe X cl Φ k W g tk))
  | .Pow => some (plainE (.prim .pow (.cons A.E (.cons B.E .nil))) rfl fun X cl Φ k W g tk => e_bin op_powE (A.pe X cl Φ k W g tk) (B.pe X cl Φ k W g tk))
  | _ => none
def cNeg (A : OkE cc a) : OkE cc (.UnaryOp .USub a pos) := plainE (.prim .neg (.cons A.E .nil)) rfl fun X cl Φ k W g tk => e_neg (A.pe X cl Φ k W g tk)
def cNot (A : OkE cc a) : Option (OkE cc (.UnaryOp .Not a pos)) :=
  if h : notIf a = true then some ⟨.notE A.E, fun X cl Φ k W g tk => e_not (A.pe X cl Φ k W g tk), fun _ X cl Φ k W g tk => t_not (A.pt h X cl Φ k W g tk)⟩ else none
/-- one comparison -/
structure OkC (op : CmpOp) where
  o : Cmp
  ok : ∀ X : Cx, X.A.units + 200 < cLine → OpR X (compareOp op) (CV X.K o)
def cOp : (op : CmpOp) → Option (OkC op)
  | .Eq => some ⟨.eq, fun _ hu => op_eqE hu⟩
  | .NotEq => some ⟨.ne, fun _ hu => op_neE hu⟩
  | .Lt => some ⟨.lt, fun _ hu => op_ltE hu⟩
  | .LtE => some ⟨.le, fun _ _ => op_leE⟩
  | .Gt => some ⟨.gt, fun _ _ => op_gtE⟩
  | .GtE => some ⟨.ge, fun _ _ => op_geE⟩
  | .In => some ⟨.isin, fun _ hu => op_inE hu⟩
  | .NotIn => some ⟨.notin, fun _ hu => op_notinE hu⟩
  | _ => none
def cCmp (A : OkE cc a) (B : OkE cc b) (op : CmpOp) : Option (OkE cc (.Compare a [op] [b] pos)) :=
  match cOp op with
  | some C => if h : behindInMarks op b = false then
      some ⟨.cmp C.o A.E B.E, fun X cl Φ k W g tk => e_cmpR (C.ok X g.un) (A.pe X cl Φ k W g tk) (B.pe X cl Φ k W g tk) h, fun _ X cl Φ k W g tk => t_cmpR (C.ok X g.un) (A.pe X cl Φ k W g tk) (B.pe X cl Φ k W g tk) h⟩
    else none
  | none => none
def cIsN (A : OkE cc a) {j : Nat} {pos' : Pos} : OkE cc (.Compare a [.Is] [.Constant .none j pos'] pos) :=
  ⟨.cmp .isN A.E (.dat .none), fun X cl Φ k W g tk => e_isN (A.pe X cl Φ k W g tk), fun _ X cl Φ k W g tk => t_isN (A.pe X cl Φ k W g tk)⟩
def cNotN (A : OkE cc a) {j : Nat} {pos' : Pos} : OkE cc (.Compare a [.IsNot] [.Constant .none j pos'] pos) :=
  ⟨.cmp .notN A.E (.dat .none), fun X cl Φ k W g tk => e_notN (A.pe X cl Φ k W g tk), fun _ X cl Φ k W g tk => t_notN (A.pe X cl Φ k W g tk)⟩
def cChain (A : OkE cc a) (B : OkE cc b) (C : OkE cc c) (op op' : CmpOp) : Option (OkE cc (.Compare a [op, op'] [b, c] pos)) :=
  match cOp op, cOp op' with
  | some P, some Q => if h : lastMarks [op, op'] [b, c] = false then
      some ⟨.chain P.o Q.o A.E B.E C.E, fun X cl Φ k W g tk => e_chain (P.ok X g.un) (Q.ok X g.un) (A.pe X cl Φ k W g tk) (B.pe X cl Φ k W g tk) (C.pe X cl Φ k W g tk) h,
        fun _ X cl Φ k W g tk => t_chain (P.ok X g.un) (Q.ok X g.un) (A.pe X cl Φ k W g tk) (B.pe X cl Φ k W g tk) (C.pe X cl Φ k W g tk) h⟩
    else none
  | _, _ => none
def cIf (C : OkE cc c) (A : OkE cc a) (B : OkE cc b) : Option (OkE cc (.IfExp c a b pos)) :=
  if h : notIf c = true then some ⟨.ite C.E A.E B.E, fun X cl Φ k W g tk => e_if (C.pt h X cl Φ k W g tk) (A.pe X cl Φ k W g tk) (B.pe X cl Φ k W g tk), fun h => by cases h⟩ else none
/-- and, or: whatever the whole -/
structure OkB (cc : CC) (op : BoolOp) (vs : List Expr) (pos : Pos) where
  E : Ev.E
  pe : ∀ (X : Cx) (cl : Nat → Value) (Φ : Calls) (k : Nat) (W : WX), Gd X cc cl Φ k → Takes X W → PE X (.BoolOp op vs pos) (tE X.K cl Φ W E)
  pw : ∀ (X : Cx) (cl : Nat → Value) (Φ : Calls) (k : Nat) (W : WX), Gd X cc cl Φ k → Takes X W → PW X (.BoolOp op vs pos) (tT X.K cl Φ W E)
def cB1 (A : OkE cc a) (op : BoolOp) : Option (OkB cc op [a] pos) :=
  if h : notIf a = true then some ⟨A.E, fun X cl Φ k W g tk => pe_one (A.pe X cl Φ k W g tk), fun X cl Φ k W g tk => by
    cases op with
    | And => exact pw_and1 (A.pt h X cl Φ k W g tk)
    | Or => exact pw_or1 (A.pt h X cl Φ k W g tk)⟩ else none
def cB2 {rest : List Expr} (A : OkE cc a) : {op : BoolOp} → OkB cc op (b :: rest) pos → Option (OkB cc op (a :: b :: rest) pos)
  | .And, B => if h : notIf a = true then some ⟨.andE A.E B.E, fun X cl Φ k W g tk => e_and (A.pe X cl Φ k W g tk) (B.pe X cl Φ k W g tk), fun X cl Φ k W g tk => w_and (A.pt h X cl Φ k W g tk) (B.pw X cl Φ k W g tk)⟩ else none
  | .Or, B => if h : notIf a = true then some ⟨.orE A.E B.E, fun X cl Φ k W g tk => e_or (A.pe X cl Φ k W g tk) (B.pe X cl Φ k W g tk), fun X cl Φ k W g tk => w_or (A.pt h X cl Φ k W g tk) (B.pw X cl Φ k W g tk)⟩ else none
def cBoth {op : BoolOp} {vs : List Expr} (B : OkB cc op vs pos) : OkE cc (.BoolOp op vs pos) := ⟨B.E, B.pe, fun _ X cl Φ k W g tk => (B.pw X cl Φ k W g tk).pt⟩
/-! ### argument lists, displays -/
def cNil : OkEs cc [] := ⟨.nil, rfl, rfl, fun _ _ _ _ _ _ _ => a_nil⟩
def cCons (A : OkE cc a) (B : OkEs cc es) : Option (OkEs cc (a :: es)) :=
  if h : notStar a = true then some ⟨.cons A.E B.E, by rw [List.all_cons, h, B.ns]; rfl, congrArg Nat.succ B.ln, fun X cl Φ k W g tk => a_cons (A.pe X cl Φ k W g tk) (B.pa X cl Φ k W g tk) (star1 h)⟩ else none
def cTup (A : OkEs cc es) {kt : Nat} : Option (OkE cc (.Tuple es kt pos)) :=
  if h : es.length ≤ 1000 then some (plainE (.tup A.E) rfl fun X cl Φ k W g tk => e_tup (A.pa X cl Φ k W g tk) (by rw [A.ln]; exact h)) else none
def cLst (A : OkEs cc es) : Option (OkE cc (.List es pos)) :=
  if h : es.length ≤ 1000 then some (plainE (.lst A.E) rfl fun X cl Φ k W g tk => e_lst (A.pa X cl Φ k W g tk) (by rw [A.ln]; exact h)) else none
def cDict : OkE cc (.Dict [] [] pos) := plainE .dnew rfl fun X cl Φ k W g tk => pe_dnewK.imp fun σ H Q h => by
  obtain ⟨al, fz, st, env, ok, eo, h⟩ := h
  have q : Post X.K al fz H (.f (.dic [])) st Q := h
  intro p n
  have np : p ∉ al := fun m => by
    obtain ⟨b, _, r⟩ := ok.mem m
    exact r.some n
  have nf : ¬ fz p := fun m => by
    obtain ⟨ys, h⟩ := ok.trk p m
    obtain ⟨o, e, _⟩ := Rd.some h
    rw [n] at e
    cases e
  refine q _ _ fz (go_new n) (ok.new n) ⟨p, rfl, ⟨[], upd_same, Nat.zero_le _, .nil⟩, np, nf⟩ fun b a _ e => ?_
  cases e
  exact n
def cDictT : OkE cc (.Dict [] [] pos) := plainE .dnewT rfl fun X cl Φ k W g tk => e_dnewT
/-! ### subscripts -/
def cIx (A : OkE cc a) (B : OkE cc b) : Option (OkE cc (.Subscript a b pos)) :=
  if h : plainIx b = true then some (plainE (.prim .idx (.cons A.E (.cons B.E .nil))) rfl fun X cl Φ k W g tk => e_ix (by have := g.un; omega) (A.pe X cl Φ k W g tk) (B.pe X cl Φ k W g tk) (plainIx_ok h)) else none
structure OkO (cc : CC) (e : Option Expr) where
  E : Oe
  po : ∀ (X : Cx) (cl : Nat → Value) (Φ : Calls) (k : Nat) (W : WX), Gd X cc cl Φ k → Takes X W → PO X e (tO X.K cl Φ W E)
def cO0 : OkO cc none := ⟨.no, fun _ _ _ _ _ _ _ => o_none⟩
def cO1 (A : OkE cc a) : OkO cc (some a) := ⟨.yes A.E, fun X cl Φ k W g tk => o_some (A.pe X cl Φ k W g tk)⟩
def cSlc {lo hi : Option Expr} (A : OkE cc a) (L : OkO cc lo) (U : OkO cc hi) : OkE cc (.Subscript a (.Slice lo hi none p2) pos) :=
  plainE (.slc A.E L.E U.E) rfl fun X cl Φ k W g tk => e_slice (A.pe X cl Φ k W g tk) (L.po X cl Φ k W g tk) (U.po X cl Φ k W g tk)
/-! ### built-in functions -/
def cF (A : OkEs cc (a :: es)) (x : Str) (p : Prim) (id : String) (hv : bootBuiltins x = some (.builtin id)) (hn : (decide (x ≠ "__name__") && !(x == ("__debug__" : Str))) = true) (n : Nat)
    (hc : ∀ X : Cx, X.A.units + 200 < cLine → X.calm = true → CallR X (.builtin id) (fun vs H Q => PV X.K (primF p) vs H Q ∧ vs.length = n)) : Option (OkE cc (.Call (.Name x p1) (a :: es) [] pos)) :=
  if h : (cc.gl x && cc.free.contains x && cc.calm && decide ((a :: es).length = n)) = true then some (plainE (.prim p A.E) rfl fun X cl Φ k W g tk => by
    simp only [Bool.and_eq_true, decide_eq_true_eq] at h hn
    have ns := A.ns
    rw [List.all_cons, Bool.and_eq_true] at ns
    exact e_callB (by rw [A.ln, h.2]; exact hc X g.un (g.calm h.1.2)) (g.gl h.1.1.1) (g.free x (by simpa using h.1.1.2)) hv (A.pa X cl Φ k W g tk) hn.1 (by simpa using hn.2) (star1 ns.1) (star_any ns.2)) else none
def cTy (A : OkEs cc (a :: es)) (x : Str) (p : Prim) (id : String) (hv : bootBuiltins x = some (.type id)) (hn : (decide (x ≠ "__name__") && !(x == ("__debug__" : Str))) = true) (n : Nat)
    (hc : ∀ X : Cx, X.A.units + 200 < cLine → X.calm = true → CallR X (.type id) (fun vs H Q => PV X.K (primF p) vs H Q ∧ vs.length = n)) : Option (OkE cc (.Call (.Name x p1) (a :: es) [] pos)) :=
  if h : (cc.gl x && cc.free.contains x && cc.calm && decide ((a :: es).length = n)) = true then some (plainE (.prim p A.E) rfl fun X cl Φ k W g tk => by
    simp only [Bool.and_eq_true, decide_eq_true_eq] at h hn
    have ns := A.ns
    rw [List.all_cons, Bool.and_eq_true] at ns
    exact e_callTy (by rw [A.ln, h.2]; exact hc X g.un (g.calm h.1.2)) (g.gl h.1.1.1) (g.free x (by simpa using h.1.1.2)) hv (A.pa X cl Φ k W g tk) hn.1 (by simpa using hn.2) (star1 ns.1) (star_any ns.2)) else none
def cBlt (A : OkEs cc (a :: es)) (x : Str) : Option (OkE cc (.Call (.Name x p1) (a :: es) [] pos)) :=
  if h : x = "len" then by subst h; exact cF A "len" .len "len" (by decide +kernel) (by decide +kernel) 1 fun _ _ _ => cr_len
  else if h : x = "all" then by subst h; exact cF A "all" .all "all" (by decide +kernel) (by decide +kernel) 1 fun _ _ hc => cr_allE hc
  else if h : x = "any" then by subst h; exact cF A "any" .any "any" (by decide +kernel) (by decide +kernel) 1 fun _ _ hc => cr_anyE hc
  else if h : x = "sum" then by subst h; exact cF A "sum" .sum "sum" (by decide +kernel) (by decide +kernel) 1 fun _ _ hc => cr_sumE hc
  else if h : x = "max" then by subst h; exact cF A "max" .max2 "max" (by decide +kernel) (by decide +kernel) 2 fun _ _ hc => cr_max2E hc
  else if h : x = "min" then by subst h; exact cF A "min" .min2 "min" (by decide +kernel) (by decide +kernel) 2 fun _ _ hc => cr_min2E hc
  else if h : x = "sorted" then by subst h; exact cF A "sorted" .sorted "sorted" (by decide +kernel) (by decide +kernel) 1 fun _ hu hc => cr_sortedE hu hc
  else if h : x = "tuple" then by subst h; exact cTy A "tuple" .tuple "tuple" (by decide +kernel) (by decide +kernel) 1 fun _ _ _ => cr_tupleE
  else if h : x = "list" then by subst h; exact cTy A "list" .list "list" (by decide +kernel) (by decide +kernel) 1 fun _ _ _ => cr_listE
  else if h : x = "int" then by subst h; exact cTy A "int" .int "int" (by decide +kernel) (by decide +kernel) 1 fun _ _ _ => cr_intE
  else if h : x = "dict" then by subst h; exact cTy A "dict" .dictT "dict" (by decide +kernel) (by decide +kernel) 1 fun _ hu hc => cr_dictE hc (by omega)
  else if h : x = "str" then by subst h; exact cTy A "str" .str "str" (by decide +kernel) (by decide +kernel) 1 fun _ _ _ => cr_strE
  else none
def cSortset (A : OkE cc a) (x y : Str) : Option (OkE cc (.Call (.Name x p1) [.Call (.Name y p2) [a] [] p3] [] pos)) :=
  if h : x = "sorted" ∧ y = "set" ∧ (cc.gl x && cc.free.contains x && cc.gl y && cc.free.contains y && cc.calm && notStar a) = true then
    some (plainE (.prim .sortset (.cons A.E .nil)) rfl fun X cl Φ k W g tk => by
      obtain ⟨rfl, rfl, h⟩ := h
      simp only [Bool.and_eq_true] at h
      exact e_sortset g.un (g.calm h.1.2) (g.gl h.1.1.1.1.1) (g.free _ (by simpa using h.1.1.1.1.2)) (by decide +kernel) (by decide +kernel) (by decide +kernel) (g.gl h.1.1.1.2) (g.free _ (by simpa using h.1.1.2)) (by decide +kernel) (by decide +kernel) (by decide +kernel) (star1 h.2) (A.pe X cl Φ k W g tk)) else none
/-! ### isinstance -/
def tyOf (y : Str) : Option Ty :=
  if y = "tuple" then some .tuple else if y = "list" then some .list else if y = "str" then some .str else if y = "int" then some .int else if y = "bool" then some .bool else none
theorem tyOf_ok {y : Str} {t : Ty} (h : tyOf y = some t) : bootBuiltins y = some (.type (tyS t)) ∧ y ≠ "__name__" ∧ (y == ("__debug__" : Str)) = false := by
  unfold tyOf at h
  repeat' (first | cases h | split at h)
  all_goals (subst_vars; refine ⟨?_, ?_, ?_⟩ <;> decide +kernel)
def cIsa1 (A : OkE cc a) (x y : Str) : Option (OkE cc (.Call (.Name x p1) [a, .Name y p2] [] pos)) :=
  match ht : tyOf y with
  | some t => if h : x = "isinstance" ∧ (cc.gl x && cc.free.contains x && cc.gl y && cc.free.contains y && notStar a) = true then
      some (plainE (.prim (.isa [t]) (.cons A.E .nil)) rfl fun X cl Φ k W g tk => by
        obtain ⟨rfl, h⟩ := h
        simp only [Bool.and_eq_true] at h
        obtain ⟨t1, t2, t3⟩ := tyOf_ok ht
        exact e_isa1 (g.gl h.1.1.1.1) (g.free _ (by simpa using h.1.1.1.2)) (by decide +kernel) (by decide +kernel) (by decide +kernel) (g.gl h.1.1.2) (g.free _ (by simpa using h.1.2)) t1 t2 t3 (A.pe X cl Φ k W g tk) (star1 h.2)) else none
  | none => none
def cIsa2 (A : OkE cc a) (x y z : Str) {kt : Nat} {pt : Pos} : Option (OkE cc (.Call (.Name x p1) [a, .Tuple [.Name y p2, .Name z p3] kt pt] [] pos)) :=
  match ht : tyOf y, hu : tyOf z with
  | some t, some u => if h : x = "isinstance" ∧ (cc.gl x && cc.free.contains x && cc.gl y && cc.free.contains y && cc.gl z && cc.free.contains z && notStar a) = true then
      some (plainE (.prim (.isa [t, u]) (.cons A.E .nil)) rfl fun X cl Φ k W g tk => by
        obtain ⟨rfl, h⟩ := h
        simp only [Bool.and_eq_true] at h
        obtain ⟨t1, t2, t3⟩ := tyOf_ok ht
        obtain ⟨u1, u2, u3⟩ := tyOf_ok hu
        exact e_isa2 (g.gl h.1.1.1.1.1.1) (g.free _ (by simpa using h.1.1.1.1.1.2)) (by decide +kernel) (by decide +kernel) (by decide +kernel) (g.gl h.1.1.1.1.2) (g.free _ (by simpa using h.1.1.1.2)) t1 t2 t3 (g.gl h.1.1.2) (g.free _ (by simpa using h.1.2)) u1 u2 u3 (A.pe X cl Φ k W g tk) (star1 h.2)) else none
  | _, _ => none
/-! ### methods -/
def recvOk : Expr → Bool
  | .Name _ _ => true
  | .Constant _ _ _ => true
  | _ => false
theorem recv_base {o : Expr} {n : Str} {env : Env} {w : Sem Value} (h : recvOk o = true) : attributeBase o n env w = w := by
  cases o <;> first | rfl | cases h
theorem few_ok {env : Env} (h : notStar b = true) : ((backTo pos (starEach [b] env)).all (fun x => !x.1) && (backToKw pos (keywordEach [] env)).all (fun x => x.1.isSome) && decide ([b].length + ([] : List Keyword).length + (if ([] : List Keyword).isEmpty then 0 else 1) < 30)) = true := by
  rw [star1 h]
  rfl
def cMeth (A : OkE cc a) (B : OkE cc b) (name : Str) {apos : Pos} : Option (OkE cc (.Call (.Attribute a name apos) [b] [] pos)) :=
  if h : (recvOk a && notStar b && (apos.endLine == pos.line)) = true then
    if h1 : name = "append" then some (plainE (.meth .append A.E B.E) rfl fun X cl Φ k W g tk => by
      subst h1
      simp only [Bool.and_eq_true] at h
      exact e_meth F.plainAttrs_list F.slot_list_append F.type_list_append mt_appendE rfl (A.pe X cl Φ k W g tk) (B.pe X cl Φ k W g tk) (recv_base h.1.1) (few_ok h.1.2) h.2 (star1 h.1.2))
    else if h1 : name = "extend" then some (plainE (.meth .extend A.E B.E) rfl fun X cl Φ k W g tk => by
      subst h1
      simp only [Bool.and_eq_true] at h
      exact e_meth F.plainAttrs_list F.slot_list_extend F.type_list_extend mt_extendE rfl (A.pe X cl Φ k W g tk) (B.pe X cl Φ k W g tk) (recv_base h.1.1) (few_ok h.1.2) h.2 (star1 h.1.2))
    else if h1 : name = "pop" then some (plainE (.meth .pop A.E B.E) rfl fun X cl Φ k W g tk => by
      subst h1
      simp only [Bool.and_eq_true] at h
      exact e_meth F.plainAttrs_list F.slot_list_pop F.type_list_pop mt_popE rfl (A.pe X cl Φ k W g tk) (B.pe X cl Φ k W g tk) (recv_base h.1.1) (few_ok h.1.2) h.2 (star1 h.1.2))
    else if h1 : name = "join" then some (plainE (.meth .join A.E B.E) rfl fun X cl Φ k W g tk => by
      subst h1
      simp only [Bool.and_eq_true] at h
      exact e_meth F.plainAttrs_str F.slot_str_join F.type_str_join mt_joinE rfl (A.pe X cl Φ k W g tk) (B.pe X cl Φ k W g tk) (recv_base h.1.1) (few_ok h.1.2) h.2 (star1 h.1.2))
    else none
  else none
theorem m2_ok {X : Cx} {name : Str} {apos : Pos} (h1 : recvOk a = true) (h2 : notStar b = true) (h3 : notStar c = true) (h4 : (apos.endLine == pos.line) = true) : M2 X a name apos b c pos where
  base := recv_base h1
  few := by
    rw [star1 h2, star1 h3]
    rfl
  line := h4
  trees := by
    rw [star1 h2, star1 h3]
    rfl
def cMeth2 (A : OkE cc a) (B : OkE cc b) (C : OkE cc c) (name : Str) {apos : Pos} : Option (OkE cc (.Call (.Attribute a name apos) [b, c] [] pos)) :=
  if h : (recvOk a && notStar b && notStar c && (apos.endLine == pos.line)) = true then
    if h1 : name = "get" then some (plainE (.get2 A.E B.E C.E) rfl fun X cl Φ k W g tk => by
      subst h1
      simp only [Bool.and_eq_true] at h
      exact e_get2 (by have := g.un; omega) (A.pe X cl Φ k W g tk) (B.pe X cl Φ k W g tk) (C.pe X cl Φ k W g tk) (m2_ok h.1.1.1 h.1.1.2 h.1.2 h.2))
    else if h1 : name = "setdefault" then some (plainE (.setd A.E B.E C.E) rfl fun X cl Φ k W g tk => by
      subst h1
      simp only [Bool.and_eq_true] at h
      exact e_setd (by have := g.un; omega) (A.pe X cl Φ k W g tk) (B.pe X cl Φ k W g tk) (C.pe X cl Φ k W g tk) (m2_ok h.1.1.1 h.1.1.2 h.1.2 h.2))
    else none
  else none
/-! ### own functions -/
def cOwn (A : OkEs cc (a :: es)) (x : Str) : Option (OkE cc (.Call (.Name x p1) (a :: es) [] pos)) :=
  match hf : cc.fns.lookup x with
  | some (i, ps) => if h : (cc.gl x && cc.calm && !(x == ("__debug__" : Str)) && decide ((a :: es).length = ps.length)) = true then
      some (plainE (.call i A.E) rfl fun X cl Φ k W g tk => by
        simp only [Bool.and_eq_true, decide_eq_true_eq] at h
        obtain ⟨fa, fd, F, m, kp, bn, _⟩ := (g.fns x i ps (PySem.mem_of_lookup hf)).ex
        have ns := A.ns
        rw [List.all_cons, Bool.and_eq_true] at ns
        rcases g.room with hr | ⟨hr, _⟩
        · exact e_call F hr (g.gl h.1.1.1) m kp bn tk (A.pa X cl Φ k W g tk) (by rw [A.ln, h.2]) (by simpa using h.1.2) (star1 ns.1) (star_any ns.2)
        · rw [hr] at h
          simp at h)
    else none
  | none => none
end
end Ev

/-! Ev19: from the text to the small syntax: keywords, loops, comprehensions, the whole of expressions -/
namespace Ev
open PySem PySem.Spec PyProof.Rows L2 RZ
theorem e_callKw {X : Cx} {cl : Nat → Value} {Φ : Calls} {W : WX} {a : Expr} {es : List Expr} {ees kes : Es} {kws : List Keyword} {ks : List Str} {pos p : Pos} {k f np n : Nat} {fa : Addr} {fd : FuncData} {ps : List Str} {x : Str} (F : FnOk X.prog X.w X.K X.mg X.base (L2.CX X.prog X.w) k fa fd ps (spF X.K cl Φ f np)) (hr : Room k X.A) (hg : Gl X x) (hm : X.mg x = some (.ref fa))
    (hk : PySem.W.keepIn X.K (.ref fa) = true) (hb : KBn X.K fd ps n ks (fun us ws => us ++ ws) (fun vs zs => vs ++ zs)) (tk : Takes X W) (ha : PA X (a :: es) (tAll X.K cl Φ W ees)) (hkw : PK X kws (tAll X.K cl Φ W kes)) (hl : (ees.app kes).len = np) (l1 : ees.len = n) (l2 : kes.len = ks.length)
    (hall : (backToKw pos (keywordEach kws X.env)).all (·.1.isSome) = true) (hks : (backToKw pos (keywordEach kws X.env)).filterMap (·.1) = ks)
    (hdb : (x == ("__debug__" : Str)) = false) (he : starEach (a :: es) X.env = (false, eval a X.env) :: starEach es X.env) (hpl : ((backTo pos (starEach (a :: es) X.env)).any (·.1) || (backToKw pos (keywordEach kws X.env)).any (·.1.isNone)) = false) :
    PE X (.Call (.Name x p) (a :: es) kws pos) (tE X.K cl Φ W (.call f (ees.app kes))) := by
  refine ⟨fun pins s σ H Q I h => ?_⟩
  have h := s_app (s_call hl h)
  refine wpAny_Call_Name_kw (ld_glob I hg hm ?_ hdb)
  have h1 : tAll X.K cl Φ W ees σ H fun vs H1 => vs.length = ees.len ∧ tAll X.K cl Φ W kes σ H1 fun zs H2 => zs.length = kes.len ∧ spF X.K cl Φ f np (vs ++ zs) H2 Q (WE W σ) := tAll.imp h fun vs H1 hv h => ⟨hv, tAll.imp h fun zs H2 hz h => ⟨hz, h⟩⟩
  refine PySem.W.callWith_KW (h₀ := X.base) I.ok.mod.kin hk hall (thn (ha.run pos pins s σ H _ I h1) fun us s1 hh => ?_) hpl he
  obtain ⟨vs, H1, I1, r, hv, q⟩ := hh
  refine thn (hkw.run pos pins s1 σ H1 _ I1 q) fun ws s2 hh => ?_
  obtain ⟨zs, H2, I2, rz, hz, q2⟩ := hh
  refine ⟨I2.kIn, ?_⟩
  rw [hks]
  have r2 := hb.rel r rz
  have lw : ws.length = ks.length := by rw [← rz.length, hz, l2]
  have lu : us.length = n := by rw [← r.length, hv, l1]
  refine wpAny_call (codeAny_mono (F.run X.A X.stack s2 H2 ⟨us, ks.zip ws⟩ (us ++ ws) (vs ++ zs) Q (WE W σ) hr I2.env0 (hb.to s2 us ws I2.kIn lu lw) r2 q2) fun r s' hq => ?_)
  cases r with
  | error e => exact passAt tk σ pins H2 s2 e s' I2 hq
  | ok fl =>
    cases fl with
    | ret u => exact I2.after hq
    | next => exact False.elim hq
    | brk => exact False.elim hq
    | cont => exact False.elim hq
structure OkK (cc : CC) (kws : List Keyword) where
  E : Es
  ks : List Str
  ln : E.len = ks.length
  al : ∀ (pos : Pos) (env : Env), (backToKw pos (keywordEach kws env)).all (·.1.isSome) = true ∧ (backToKw pos (keywordEach kws env)).filterMap (·.1) = ks ∧ (backToKw pos (keywordEach kws env)).any (·.1.isNone) = false
  pk : ∀ (X : Cx) (cl : Nat → Value) (Φ : Calls) (k : Nat) (W : WX), Gd X cc cl Φ k → Takes X W → PK X kws (tAll X.K cl Φ W E)
theorem Es.len_app : ∀ (a b : Es), (a.app b).len = a.len + b.len
  | .nil, b => by simp [Es.app, Es.len]
  | .cons e es, b => by
    show (es.app b).len + 1 = es.len + 1 + b.len
    rw [Es.len_app es b]
    omega
section
variable {cc : CC} {a b c : Expr} {pos p1 p2 p3 kpos : Pos} {es : List Expr} {kws : List Keyword}
def cK0 : OkK cc [] := ⟨.nil, [], rfl, fun _ _ => ⟨rfl, rfl, rfl⟩, fun _ _ _ _ _ _ _ => pk_nil⟩
def cK1 (x : Str) (A : OkE cc a) (B : OkK cc kws) : OkK cc (⟨some x, a, kpos⟩ :: kws) :=
  ⟨.cons A.E B.E, x :: B.ks, congrArg Nat.succ B.ln, fun pos env => by
    obtain ⟨h1, h2, h3⟩ := B.al pos env
    refine ⟨?_, ?_, ?_⟩
    · show (true && (backToKw pos (keywordEach kws env)).all (·.1.isSome)) = true
      rw [h1]
      rfl
    · show x :: (backToKw pos (keywordEach kws env)).filterMap (·.1) = _
      rw [h2]
    · show (false || (backToKw pos (keywordEach kws env)).any (·.1.isNone)) = false
      rw [h3]
      rfl, fun X cl Φ k W g tk => pk_cons (A.pe X cl Φ k W g tk) (B.pk X cl Φ k W g tk)⟩
def cKw (A : OkEs cc (a :: es)) (B : OkK cc kws) (x : Str) : Option (OkE cc (.Call (.Name x p1) (a :: es) kws pos)) :=
  match hf : cc.fns.lookup x with
  | some (i, ps) => if h : (cc.gl x && cc.calm && !(x == ("__debug__" : Str)) && decide ((a :: es).length + B.ks.length = ps.length) && decide (B.ks = ps.drop (a :: es).length) && cc.kws.contains (x, (a :: es).length)) = true then
      some (plainE (.call i (A.E.app B.E)) rfl fun X cl Φ k W g tk => by
        simp only [Bool.and_eq_true, decide_eq_true_eq] at h
        obtain ⟨fa, fd, F, m, kp, bn, kb⟩ := (g.fns x i ps (PySem.mem_of_lookup hf)).ex
        have ns := A.ns
        rw [List.all_cons, Bool.and_eq_true] at ns
        have kb := kb (a :: es).length (by simpa using h.2)
        rw [← h.1.2] at kb
        rcases g.room with hr | ⟨hr, _⟩
        · refine e_callKw F hr (g.gl h.1.1.1.1.1) m kp kb tk (A.pa X cl Φ k W g tk) (B.pk X cl Φ k W g tk) (by rw [Es.len_app, A.ln, B.ln]; exact h.1.1.2) A.ln B.ln (B.al pos X.env).1 (B.al pos X.env).2.1 (by simpa using h.1.1.1.2) (star1 ns.1) ?_
          rw [star1 ns.1, (B.al pos X.env).2.2, Bool.or_false]
          exact star_any (es := a :: es) A.ns |> fun h => by rw [star1 ns.1] at h; exact h
        · rw [hr] at h
          simp at h)
    else none
  | none => none
/-! ### targets -/
def cT1 (x : Str) : Option (OkG cc (.Name x pos)) :=
  match findN x cc.N 0 with
  | some i => if h : cc.N[i]? = some x ∧ cc.loc x = true then some ⟨.name i, fun X cl Φ k g => pg_name g.nd (by rw [g.N]; exact h.1) (g.loc h.2).1 (g.loc h.2).2⟩ else none
  | none => none
/-- names in a row -/
structure OkN (cc : CC) (ts : List Expr) where
  is : List Nat
  ok : ∀ (X : Cx) (cl : Nat → Value) (Φ : Calls) (k : Nat), Gd X cc cl Φ k → PGs X ts (gNs is)
  ln : is.length = ts.length
  ns : ∀ env, (assignEach ts env).length = ts.length ∧ (assignEach ts env).findIdx? (·.1) = none
def cN0 : OkN cc [] := ⟨[], fun _ _ _ _ _ => pgs_nil, rfl, fun _ => ⟨rfl, rfl⟩⟩
def cN1 (x : Str) {ts : List Expr} (B : OkN cc ts) : Option (OkN cc (.Name x pos :: ts)) :=
  match findN x cc.N 0 with
  | some i => if h : cc.N[i]? = some x ∧ cc.loc x = true then some ⟨i :: B.is, fun X cl Φ k g => pgs_cons (pg_name g.nd (by rw [g.N]; exact h.1) (g.loc h.2).1 (g.loc h.2).2) (B.ok X cl Φ k g) rfl, congrArg Nat.succ B.ln, fun env => ⟨congrArg Nat.succ (B.ns env).1, by
      have := (B.ns env).2
      show List.findIdx? _ ((false, assign (.Name x pos) env) :: assignEach ts env) = none
      rw [List.findIdx?_cons]
      simp [this]⟩⟩ else none
  | none => none
def cNs : (ts : List Expr) → Option (OkN cc ts)
  | [] => some cN0
  | .Name x pos :: ts => match cNs ts with
    | some B => cN1 x B
    | none => none
  | _ :: _ => none
def cTg : (tg : Expr) → Option (OkG cc tg)
  | .Name x pos => cT1 x
  | .Tuple ts kt pt => match cNs (cc := cc) ts with
    | some B => if hc : cc.calm = true then some ⟨.tup B.is, fun X cl Φ k g => pg_tup (g.calm hc) (B.ok X cl Φ k g) (by rw [(B.ns X.env).1, B.ln]) (B.ns X.env).2⟩ else none
    | none => none
  | _ => none
/-! ### what a for takes -/
def cOf (A : OkE cc a) {tg : Expr} : Option (OkI cc tg a) :=
  if h : notSet a = true then some ⟨.of A.E, h, fun X cl Φ k W g tk => i_of (A.pe X cl Φ k W g tk)⟩ else none
def cR1 (A : OkE cc a) {tg : Expr} : Option (OkI cc tg (.Call (.Name "range" p1) [a] [] pos)) :=
  if h : (cc.gl "range" && cc.free.contains "range" && notStar a) = true then some ⟨.range1 A.E, rfl, fun X cl Φ k W g tk => by
    simp only [Bool.and_eq_true] at h
    exact i_range1 (g.gl h.1.1) (g.free _ (by simpa using h.1.2)) (A.pe X cl Φ k W g tk) (star1 h.2)⟩ else none
def cR2 (A : OkE cc a) (B : OkE cc b) {tg : Expr} : Option (OkI cc tg (.Call (.Name "range" p1) [a, b] [] pos)) :=
  if h : (cc.gl "range" && cc.free.contains "range" && notStar a && notStar b) = true then some ⟨.range2 A.E B.E, rfl, fun X cl Φ k W g tk => by
    simp only [Bool.and_eq_true] at h
    exact i_range2 (g.gl h.1.1.1) (g.free _ (by simpa using h.1.1.2)) (A.pe X cl Φ k W g tk) (B.pe X cl Φ k W g tk) (by rw [star1 h.1.2, star1 h.2]; rfl) (star1 h.2)⟩ else none
def cEn (A : OkE cc a) {elts : List Expr} {kk : Nat} {tpos : Pos} : Option (OkI cc (.Tuple elts kk tpos) (.Call (.Name "enumerate" p1) [a] [] pos)) :=
  if h : (cc.gl "enumerate" && cc.free.contains "enumerate" && notStar a) = true then some ⟨.enum A.E, rfl, fun X cl Φ k W g tk => by
    simp only [Bool.and_eq_true] at h
    exact i_enum (g.gl h.1.1) (g.free _ (by simpa using h.1.2)) (A.pe X cl Φ k W g tk) (star1 h.2)⟩ else none
def cZp (A : OkE cc a) (B : OkE cc b) {elts : List Expr} {kk : Nat} {tpos : Pos} : Option (OkI cc (.Tuple elts kk tpos) (.Call (.Name "zip" p1) [a, b] [] pos)) :=
  if h : (cc.gl "zip" && cc.free.contains "zip" && notStar a && notStar b) = true then some ⟨.zip A.E B.E, rfl, fun X cl Φ k W g tk => by
    simp only [Bool.and_eq_true] at h
    exact i_zip (g.gl h.1.1.1) (g.free _ (by simpa using h.1.1.2)) (A.pe X cl Φ k W g tk) (B.pe X cl Φ k W g tk) (star1 h.1.2) (star1 h.2) (by rw [star1 h.2]; rfl)⟩ else none
/-! ### dicts that are walked -/
/-- the slot of the dict that a for walks -/
def dictIt (cc : CC) : Expr → Option Nat
  | .Name x _ => if cc.dn.contains x then findN x cc.N 0 else none
  | .Call (.Attribute (.Name x _) _ _) [] [] _ => if cc.dn.contains x then findN x cc.N 0 else none
  | _ => none
def cDk {tg : Expr} (x : Str) : Option (OkI cc tg (.Name x pos)) :=
  match findN x cc.N 0 with
  | some i => if h : cc.N[i]? = some x ∧ cc.vis x = true ∧ (x == ("__debug__" : Str)) = false ∧ (x == ("__classdict__" : Str)) = false then
      some ⟨.dkeys i, rfl, fun X cl Φ k W g tk => i_dkeys (e_var (by rw [g.N]; exact h.1) (g.vis h.2.1) h.2.2.1 h.2.2.2)⟩ else none
  | none => none
def cDi {elts : List Expr} {kk : Nat} {tpos apos : Pos} (x : Str) : Option (OkI cc (.Tuple elts kk tpos) (.Call (.Attribute (.Name x p1) "items" apos) [] [] pos)) :=
  match findN x cc.N 0 with
  | some i => if h : cc.N[i]? = some x ∧ cc.vis x = true ∧ (x == ("__debug__" : Str)) = false ∧ (x == ("__classdict__" : Str)) = false ∧ (apos.endLine == pos.line) = true then
      some ⟨.ditems i, rfl, fun X cl Φ k W g tk => i_ditems (e_var (by rw [g.N]; exact h.1) (g.vis h.2.1) h.2.2.1 h.2.2.2.1) rfl h.2.2.2.2⟩ else none
  | none => none
/-! ### comprehensions -/
def CC.blk (cc : CC) (scope : Scope) : CC := { cc with sc := relS scope cc.sc, fn := fun x => scope.names.lookup x == some .cell }
theorem Gd.blk {X : Cx} {cl : Nat → Value} {Φ : Calls} {k : Nat} (g : Gd X cc cl Φ k) {scope : Scope} (hk : scope.kind = .function) (s : Shared) (H : Hp) (C : Addr) (l : List (Str × Addr)) (fp : List Addr) : Gd (X.blk s H scope (compEnvC scope l C X.env) fp) (cc.blk scope) cl Φ k :=
  { N := g.N
    nd := g.nd
    sc := by
      show relS scope X.env.scope = relS scope cc.sc
      rw [g.sc]
    kind := hk
    fn := rfl
    calm := g.calm
    room := g.room
    fns := fun x i ps h => ⟨(g.fns x i ps h).ex⟩
    cons := g.cons
    free := g.free
    exs := fun i x h => ⟨(g.exs i x h).ex⟩
    cats := g.cats }
theorem takes_W0 {X : Cx} : Takes X W0 := takes_none5
def ownOf (cc : CC) (scope : Scope) : List (Str × Nat) := scope.names.filterMap fun y => match y.2 with
  | .local => (findN y.1 cc.N 0).map fun i => (y.1, i)
  | .cell => (findN y.1 cc.N 0).map fun i => (y.1, i)
  | _ => none
/-- the conditions of a comprehension -/
structure OkCs (cc : CC) (ifs : List Expr) where
  E : Oe
  pt : ∀ (X : Cx) (cl : Nat → Value) (Φ : Calls) (k : Nat), Gd X cc cl Φ k → PTs X ifs (tC0 X.K cl Φ E)
def cI0 : OkCs cc [] := ⟨.no, fun _ _ _ _ _ => pts_nil⟩
def cI1 (A : OkE cc a) : Option (OkCs cc [a]) := if h : notIf a = true then some ⟨.yes A.E, fun X cl Φ k g => pts_one (A.pt h X cl Φ k W0 g takes_W0)⟩ else none
variable {elt tg iter tg1 iter1 : Expr} {ifs ifs1 : List Expr} {scope : Scope}
/-- the rules of a comprehension: as a value, and stored into a name on one line -/
structure OkL (cc : CC) (elt : Expr) (gs : List Comprehension) (scope : Scope) (pos : Pos) where
  E : Ev.E
  pe : ∀ (X : Cx) (cl : Nat → Value) (Φ : Calls) (k : Nat) (W : WX), Gd X cc cl Φ k → Takes X W → PE X (.ListComp elt gs scope pos) (tE X.K cl Φ W E)
  ps : ∀ (X : Cx) (cl : Nat → Value) (Φ : Calls) (k : Nat) (W : WX), Gd X cc cl Φ k → Takes X W → ∀ (i : Nat) (y : Str) (py spos : Pos), X.N[i]? = some y → X.env.scope.names.lookup y = some .local →
    swapsWith (.ListComp elt gs scope pos) (some (.Name y py)) spos.line X.env = pure true → PS X (.Assign [.Name y py] (.ListComp elt gs scope pos) spos) (tS X.K cl Φ W (.asg i E))
theorem asg_lock {Φ : Calls} {i v : Nat} {e : E} {env : Envr} {st : List Ob} {K : PySem.W.Frag} {al : List Addr} {fz : Addr → Prop} {H : Hp} {W : WX} {cl : Nat → Value} {D : Ends} (h : DnF K al fz H W cl (exS Φ (.asg i (.lock v e)) env st) D) : DnF K al fz H W cl (exS Φ (.lock v (.asg i e)) env st) D := by
  unfold exS at h ⊢
  unfold evE at h
  cases hl : lockO env v st with
  | none => rw [hl] at h; exact h.elim
  | some p =>
    obtain ⟨j, kvs⟩ := p
    rw [hl] at h
    dsimp only at h ⊢
    unfold exS
    cases he : evE Φ e env (st.set j (.dit true kvs)) with
    | ok r st2 =>
      rw [he] at h
      unfold unE at h
      dsimp only at h
      split at h
      · rename_i kvs' hj
        have hlt : j < st2.length := (List.getElem?_eq_some_iff.mp hj).1
        cases r with
        | d x =>
          show DnF K al fz H W cl (match st2[j]? with | some (.dit true kvs') => _ | _ => .err) D
          rw [hj]
          exact h
        | o x =>
          show DnF K al fz H W cl (match st2[j]? with | some (.dit true kvs') => _ | _ => .err) D
          rw [hj]
          exact h
        | f b =>
          have h1 : (st2 ++ [b])[j]? = some (.dit true kvs') := by rw [List.getElem?_append_left hlt, hj]
          show DnF K al fz H W cl (match (st2 ++ [b])[j]? with | some (.dit true kvs') => Fl.next (env.set i (some (.o st2.length))) ((st2 ++ [b]).set j (.dit false kvs')) | _ => .err) D
          rw [h1]
          have h : DnF K al fz H W cl (.next (env.set i (some (.o (st2.set j (.dit false kvs')).length))) (st2.set j (.dit false kvs') ++ [b])) D := h
          rw [List.length_set] at h
          have hs : (st2 ++ [b]).set j (.dit false kvs') = st2.set j (.dit false kvs') ++ [b] := List.set_append_left _ _ hlt
          show DnF K al fz H W cl (Fl.next (env.set i (some (.o st2.length))) ((st2 ++ [b]).set j (.dit false kvs'))) D
          rw [hs]
          exact h
      · exact h.elim
    | exc c st2 => rw [he] at h; exact h.elim
    | err => rw [he] at h; exact h.elim
def cLockL {gs : List Comprehension} (v : Nat) (A : OkL cc elt gs scope pos) : OkL cc elt gs scope pos :=
  ⟨.lock v A.E, fun X cl Φ k W g tk => e_lock (A.pe X cl Φ k W g tk), fun X cl Φ k W g tk i y py spos hi hy hsw => (s_lock (A.ps X cl Φ k W g tk i y py spos hi hy hsw)).imp fun D σ H z => by
    obtain ⟨al, fz, st, env, ok, eo, h⟩ := z
    exact ⟨al, fz, st, env, ok, eo, asg_lock h⟩⟩
def cLc (G : OkG (cc.blk scope) tg) (I : OkI cc tg iter) (C : OkCs (cc.blk scope) ifs) (A : OkE (cc.blk scope) elt) : Option (OkL cc elt [⟨tg, iter, ifs, 0⟩] scope pos) :=
  if h : (blkC cc.N cc.sc scope (ownOf cc scope) && cc.calm && G.G.slots.all fun i => ((ownOf cc scope).map (·.2)).contains i) = true then
    some ⟨.comp A.E G.G I.I C.E ((ownOf cc scope).map (·.2)), fun X cl Φ k W g tk => by
      simp only [Bool.and_eq_true, List.all_eq_true] at h
      have bo := blkOk_by h.1.1
      have hv : ∀ i ∈ G.G.slots, i ∈ (ownOf cc scope).map (·.2) := fun i m => by simpa using h.2 i m
      have hh := pe_lc (pos := pos) (elt := elt) (te := tE X.K cl Φ W0 A.E) (tt := tC0 X.K cl Φ C.E) (g := gOf X.K G.G) (g.calm h.1.2) g.nd (I.pi X cl Φ k W g tk) (by rw [g.N, g.sc]; exact bo) (fun s H C l fp => G.pg _ cl Φ k (g.blk bo.kind s H C l fp)) (fun s H C' l fp => C.pt _ cl Φ k (g.blk bo.kind s H C' l fp)) (fun s H C l fp => A.pe _ cl Φ k W0 (g.blk bo.kind s H C l fp) takes_W0) (fold_ok I.ns)
      exact hh.imp fun σ H Q z => lc_v hv trivial z, fun X cl Φ k W g tk i y py spos hi hy hsw => by
      simp only [Bool.and_eq_true, List.all_eq_true] at h
      have bo := blkOk_by h.1.1
      have hv : ∀ i ∈ G.G.slots, i ∈ (ownOf cc scope).map (·.2) := fun i m => by simpa using h.2 i m
      have hh := ps_setLc (pos := pos) (te := tE X.K cl Φ W0 A.E) (tt := tC0 X.K cl Φ C.E) (g := gOf X.K G.G) (g.calm h.1.2) g.nd hi hy hsw (I.pi X cl Φ k W g tk) (by rw [g.N, g.sc]; exact bo) (fun s H C l fp => G.pg _ cl Φ k (g.blk bo.kind s H C l fp)) (fun s H C' l fp => C.pt _ cl Φ k (g.blk bo.kind s H C' l fp)) (fun s H C l fp => A.pe _ cl Φ k W0 (g.blk bo.kind s H C l fp) takes_W0) (fold_ok I.ns)
      exact hh.imp fun D σ H z => lc_v hv trivial (asg_v z)⟩
  else none
def cLc2 (G : OkG (cc.blk scope) tg) (I : OkI cc tg iter) (C : OkCs (cc.blk scope) ifs) (G1 : OkG (cc.blk scope) tg1) (I1 : OkI (cc.blk scope) tg1 iter1) (C1 : OkCs (cc.blk scope) ifs1) (A : OkE (cc.blk scope) elt) : Option (OkL cc elt [⟨tg, iter, ifs, 0⟩, ⟨tg1, iter1, ifs1, 0⟩] scope pos) :=
  if h : (blkC cc.N cc.sc scope (ownOf cc scope) && cc.calm && (G.G.slots.all fun i => ((ownOf cc scope).map (·.2)).contains i) && G1.G.slots.all fun i => ((ownOf cc scope).map (·.2)).contains i) = true then
    some ⟨.comp2 A.E G.G I.I C.E G1.G I1.I C1.E ((ownOf cc scope).map (·.2)) G1.G.slots, fun X cl Φ k W g tk => by
      simp only [Bool.and_eq_true, List.all_eq_true] at h
      have bo := blkOk_by h.1.1.1
      have hv : ∀ i ∈ G.G.slots, i ∈ (ownOf cc scope).map (·.2) := fun i m => by simpa using h.1.2 i m
      have hv1 : ∀ i ∈ G1.G.slots, i ∈ (ownOf cc scope).map (·.2) := fun i m => by simpa using h.2 i m
      have hh := pe_lc2 (pos := pos) (elt := elt) (te := tE X.K cl Φ W0 A.E) (tt := tC0 X.K cl Φ C.E) (g := gOf X.K G.G) (tt1 := tC0 X.K cl Φ C1.E) (g1 := gOf X.K G1.G) (wi1 := tI X.K cl Φ W0 I1.I) (g.calm h.1.1.2) g.nd (I.pi X cl Φ k W g tk) (by rw [g.N, g.sc]; exact bo) hv1 (fun s H C l fp => G.pg _ cl Φ k (g.blk bo.kind s H C l fp)) (fun s H C' l fp => C.pt _ cl Φ k (g.blk bo.kind s H C' l fp))
        (fun s H C l fp => I1.pi _ cl Φ k W0 (g.blk bo.kind s H C l fp) takes_W0) (fun s H C l fp => G1.pg _ cl Φ k (g.blk bo.kind s H C l fp)) (fun s H C' l fp => C1.pt _ cl Φ k (g.blk bo.kind s H C' l fp)) (fun s H C l fp => A.pe _ cl Φ k W0 (g.blk bo.kind s H C l fp) takes_W0) (fold_ok I.ns) (fun env => fold_ok I1.ns)
      exact hh.imp fun σ H Q z => lc2_v hv (fun _ h => h) z, fun X cl Φ k W g tk i y py spos hi hy hsw => by
      simp only [Bool.and_eq_true, List.all_eq_true] at h
      have bo := blkOk_by h.1.1.1
      have hv : ∀ i ∈ G.G.slots, i ∈ (ownOf cc scope).map (·.2) := fun i m => by simpa using h.1.2 i m
      have hv1 : ∀ i ∈ G1.G.slots, i ∈ (ownOf cc scope).map (·.2) := fun i m => by simpa using h.2 i m
      have hh := ps_setLc2 (pos := pos) (elt := elt) (te := tE X.K cl Φ W0 A.E) (tt := tC0 X.K cl Φ C.E) (g := gOf X.K G.G) (tt1 := tC0 X.K cl Φ C1.E) (g1 := gOf X.K G1.G) (wi1 := tI X.K cl Φ W0 I1.I) (g.calm h.1.1.2) g.nd hi hy hsw (I.pi X cl Φ k W g tk) (by rw [g.N, g.sc]; exact bo) hv1 (fun s H C l fp => G.pg _ cl Φ k (g.blk bo.kind s H C l fp)) (fun s H C' l fp => C.pt _ cl Φ k (g.blk bo.kind s H C' l fp))
        (fun s H C l fp => I1.pi _ cl Φ k W0 (g.blk bo.kind s H C l fp) takes_W0) (fun s H C l fp => G1.pg _ cl Φ k (g.blk bo.kind s H C l fp)) (fun s H C' l fp => C1.pt _ cl Φ k (g.blk bo.kind s H C' l fp)) (fun s H C l fp => A.pe _ cl Φ k W0 (g.blk bo.kind s H C l fp) takes_W0) (fold_ok I.ns) (fun env => fold_ok I1.ns)
      exact hh.imp fun D σ H z => lc2_v hv (fun _ h => h) (asg_v z)⟩
  else none
end
/-! ### the whole -/
mutual
def cE : Nat → (cc : CC) → (e : Expr) → Option (OkE cc e)
  | 0, _, _ => none
  | n + 1, cc, .Name x pos => cName cc x pos
  | n + 1, cc, .Constant c j pos => cConst cc c j pos
  | n + 1, cc, .BinOp a op b pos => do
    let A ← cE n cc a
    let B ← cE n cc b
    cBin A B op
  | n + 1, cc, .UnaryOp .USub a pos => do
    let A ← cE n cc a
    some (cNeg A)
  | n + 1, cc, .UnaryOp .Not a pos => do
    let A ← cE n cc a
    cNot A
  | n + 1, cc, .BoolOp op vs pos => do
    let B ← cBo n cc op vs pos
    some (cBoth B)
  | n + 1, cc, .Compare a [.Is] [.Constant .none j pos'] pos => do
    let A ← cE n cc a
    some (cIsN A)
  | n + 1, cc, .Compare a [.IsNot] [.Constant .none j pos'] pos => do
    let A ← cE n cc a
    some (cNotN A)
  | n + 1, cc, .Compare a [op] [b] pos => do
    let A ← cE n cc a
    let B ← cE n cc b
    cCmp A B op
  | n + 1, cc, .Compare a [op, op'] [b, c] pos => do
    let A ← cE n cc a
    let B ← cE n cc b
    let C ← cE n cc c
    cChain A B C op op'
  | n + 1, cc, .IfExp c a b pos => do
    let C ← cE n cc c
    let A ← cE n cc a
    let B ← cE n cc b
    cIf C A B
  | n + 1, cc, .Tuple es kt pos => do
    let A ← cEs n cc es
    cTup A
  | n + 1, cc, .List es pos => do
    let A ← cEs n cc es
    cLst A
  | n + 1, cc, .Dict [] [] pos => some (if cc.dn.isEmpty then cDict else cDictT)
  | n + 1, cc, .Subscript a (.Slice lo hi none p2) pos => do
    let A ← cE n cc a
    let L ← cOe n cc lo
    let U ← cOe n cc hi
    some (cSlc A L U)
  | n + 1, cc, .Subscript a b pos => do
    let A ← cE n cc a
    let B ← cE n cc b
    cIx A B
  | n + 1, cc, .Call (.Name x p1) [.Call (.Name y p2) [a] [] p3] [] pos =>
    if x = "sorted" ∧ y = "set" then do
      let A ← cE n cc a
      cSortset A x y
    else do
      let A ← cEs n cc [.Call (.Name y p2) [a] [] p3]
      match cOwn A x with
        | some r => some r
        | none => cBlt A x
  | n + 1, cc, .Call (.Name x p1) [a, .Name y p2] [] pos =>
    if x = "isinstance" then do
      let A ← cE n cc a
      cIsa1 A x y
    else do
      let A ← cEs n cc [a, .Name y p2]
      match cOwn A x with
        | some r => some r
        | none => cBlt A x
  | n + 1, cc, .Call (.Name x p1) [a, .Tuple [.Name y p2, .Name z p3] kt pt] [] pos =>
    if x = "isinstance" then do
      let A ← cE n cc a
      cIsa2 A x y z
    else do
      let A ← cEs n cc [a, .Tuple [.Name y p2, .Name z p3] kt pt]
      match cOwn A x with
        | some r => some r
        | none => cBlt A x
  | n + 1, cc, .Call (.Name x p1) (a :: es) [] pos => do
      let A ← cEs n cc (a :: es)
      match cOwn A x with
        | some r => some r
        | none => cBlt A x
  | n + 1, cc, .Call (.Name x p1) (a :: es) kws pos => do
      let A ← cEs n cc (a :: es)
      let B ← cKs n cc kws
      cKw A B x
  | n + 1, cc, .Call (.Attribute a name apos) [b] [] pos => do
      let A ← cE n cc a
      let B ← cE n cc b
      cMeth A B name
  | n + 1, cc, .Call (.Attribute a name apos) [b, c] [] pos => do
      let A ← cE n cc a
      let B ← cE n cc b
      let C ← cE n cc c
      cMeth2 A B C name
  | n + 1, cc, .ListComp elt gs scope pos => do
      let L ← cL n cc elt gs scope pos
      some (plainE L.E rfl L.pe)
  | _ + 1, _, _ => none
def cEs : Nat → (cc : CC) → (es : List Expr) → Option (OkEs cc es)
  | 0, _, _ => none
  | n + 1, cc, [] => some cNil
  | n + 1, cc, a :: es => do
    let A ← cE n cc a
    let B ← cEs n cc es
    cCons A B
def cKs : Nat → (cc : CC) → (kws : List Keyword) → Option (OkK cc kws)
  | 0, _, _ => none
  | n + 1, cc, [] => some cK0
  | n + 1, cc, ⟨some x, a, kpos⟩ :: kws => do
    let A ← cE n cc a
    let B ← cKs n cc kws
    some (cK1 x A B)
  | _ + 1, _, _ => none
def cBo : Nat → (cc : CC) → (op : BoolOp) → (vs : List Expr) → (pos : Pos) → Option (OkB cc op vs pos)
  | 0, _, _, _, _ => none
  | n + 1, cc, op, [a], pos => do
    let A ← cE n cc a
    cB1 A op
  | n + 1, cc, op, a :: b :: rest, pos => do
    let A ← cE n cc a
    let B ← cBo n cc op (b :: rest) pos
    cB2 A B
  | _ + 1, _, _, _, _ => none
def cOe : Nat → (cc : CC) → (e : Option Expr) → Option (OkO cc e)
  | 0, _, _ => none
  | n + 1, cc, none => some cO0
  | n + 1, cc, some a => do
    let A ← cE n cc a
    some (cO1 A)
def cI : Nat → (cc : CC) → (tg it : Expr) → Option (OkI cc tg it)
  | 0, _, _, _ => none
  | n + 1, cc, .Tuple elts kk tpos, .Call (.Name x p1) [a] [] pos => do
    let A ← cE n cc a
    if h : x = "enumerate" then by subst h; exact cEn A
    else if h : x = "range" then by subst h; exact cR1 A
    else do
      let B ← cE n cc (.Call (.Name x p1) [a] [] pos)
      cOf B
  | n + 1, cc, .Tuple elts kk tpos, .Call (.Name x p1) [a, b] [] pos => do
    let A ← cE n cc a
    let B ← cE n cc b
    if h : x = "zip" then by subst h; exact cZp A B
    else if h : x = "range" then by subst h; exact cR2 A B
    else do
      let B ← cE n cc (.Call (.Name x p1) [a, b] [] pos)
      cOf B
  | n + 1, cc, tg, .Call (.Name x p1) [a] [] pos => do
    if h : x = "range" then do
      let A ← cE n cc a
      by subst h; exact cR1 A
    else do
      let B ← cE n cc (.Call (.Name x p1) [a] [] pos)
      cOf B
  | n + 1, cc, tg, .Call (.Name x p1) [a, b] [] pos => do
    if h : x = "range" then do
      let A ← cE n cc a
      let B ← cE n cc b
      by subst h; exact cR2 A B
    else do
      let B ← cE n cc (.Call (.Name x p1) [a, b] [] pos)
      cOf B
  | n + 1, cc, .Tuple elts kk tpos, .Call (.Attribute (.Name x p1) name apos) [] [] pos =>
    if h : name = "items" then by subst h; exact cDi x else none
  | n + 1, cc, tg, .Name x pos => if cc.dn.contains x then cDk x else do
    let A ← cE n cc (.Name x pos)
    cOf A
  | n + 1, cc, tg, it => do
    let A ← cE n cc it
    cOf A
def cIfs : Nat → (cc : CC) → (ifs : List Expr) → Option (OkCs cc ifs)
  | 0, _, _ => none
  | n + 1, cc, [] => some cI0
  | n + 1, cc, [a] => do
    let A ← cE n cc a
    cI1 A
  | _ + 1, _, _ => none
def cL : Nat → (cc : CC) → (elt : Expr) → (gs : List Comprehension) → (scope : Scope) → (pos : Pos) → Option (OkL cc elt gs scope pos)
  | 0, _, _, _, _, _ => none
  | n + 1, cc, elt, [⟨tg, iter, ifs, 0⟩], scope, pos => do
    let G ← cTg (cc := cc.blk scope) tg
    let I ← cI n cc tg iter
    let C ← cIfs n (cc.blk scope) ifs
    let A ← cE n (cc.blk scope) elt
    let L ← cLc G I C A
    match dictIt cc iter with
    | some v => some (cLockL v L)
    | none => some L
  | n + 1, cc, elt, [⟨tg, iter, ifs, 0⟩, ⟨tg1, iter1, ifs1, 0⟩], scope, pos => do
    let G ← cTg (cc := cc.blk scope) tg
    let I ← cI n cc tg iter
    let C ← cIfs n (cc.blk scope) ifs
    let G1 ← cTg (cc := cc.blk scope) tg1
    let I1 ← cI n (cc.blk scope) tg1 iter1
    let C1 ← cIfs n (cc.blk scope) ifs1
    let A ← cE n (cc.blk scope) elt
    cLc2 G I C G1 I1 C1 A
  | _ + 1, _, _, _, _, _ => none
end
end Ev

/-! Ev20: from the text to the small syntax: statements -/
namespace Ev
open PySem PySem.Spec PyProof.Rows L2 RZ
structure GdS (X : Cx) (cc : CC) (cl : Nat → Value) (Φ : Calls) (k : Nat) (W : WX) : Prop where
  g : Gd X cc cl Φ k
  tk : Takes X W
  stack : X.stack = X.env :: X.outer
  frame : X.env.frame = some X.env.locals
  pass : cc.calm = true → PassesOwn (model X.prog X.w) X.A X.env X.xe
structure OkS (cc : CC) (s : Stmt) where
  S : Ev.S
  ps : ∀ (X : Cx) (cl : Nat → Value) (Φ : Calls) (k : Nat) (W : WX), GdS X cc cl Φ k W → PS X s (tS X.K cl Φ W S)
structure OkSs (cc : CC) (ss : List Stmt) where
  S : Ss
  ps : ∀ (X : Cx) (cl : Nat → Value) (Φ : Calls) (k : Nat) (W : WX), GdS X cc cl Φ k W → PSs X ss (tSs X.K cl Φ W S)
theorem block_fn {X : Cx} (h : X.env.scope.kind = .function) : X.env.blockKind = .function := by
  unfold Env.blockKind
  rw [h]
  rfl
def swB (sc scope : Scope) (y : Str) (py pos : Pos) : Bool := (sc.names.lookup y == some .local) && (py.line == pos.line) && !(scope.names.any fun (n, k) => n == y && (k == .local || k == .cell))
theorem swap_comp {X : Cx} {elt : Expr} {gs : List Comprehension} {scope : Scope} {pos py : Pos} {y : Str} {l : Nat} (h : X.env.scope.kind = .function) : swapsWith (.ListComp elt gs scope pos) (some (.Name y py)) l X.env = pure (swB X.env.scope scope y py pos) := by
  unfold swapsWith swB
  simp only [block_fn h, Env.kindOf, pure_bind]
  rfl
/-- the stores of a row of names: swapped or not -/
def swapQ (sc : Scope) (ts vs : List Expr) : Option (Option (List Str)) :=
  if (!(ts.length == 2 || ts.length == 3) || vs.length != ts.length) = true then some none
  else if (vs.any fun | .Starred .. => true | _ => false) = true then some none
  else
    let line := (ts.head?.map (·.pos.line)).getD 0
    let names := ts.filterMap fun
      | .Name id pos => if sc.names.lookup id == some .local && pos.line == line then some id else none
      | _ => none
    if (names.length != ts.length || names.eraseDups.length != names.length) = true then some none
    else if vs.all (foldedForSure 8) = true then some none
    else if vs.all (constantsAlone 8) = true then none
    else some (some names)
theorem swapQ_ok {X : Cx} {ts vs : List Expr} {kt k2 : Nat} {pt p2 : Pos} {r : Option (List Str)} (h : X.env.scope.kind = .function) (e : swapQ X.env.scope ts vs = some r) : swappedStores [.Tuple ts kt pt] (.Tuple vs k2 p2) X.env = pure r := by
  unfold swapQ at e
  unfold swappedStores
  have hb : (X.env.blockKind != ScopeKind.function) = false := by
    rw [block_fn h]
    rfl
  show (if (!(ts.length == 2 || ts.length == 3) || vs.length != ts.length || X.env.blockKind != .function) = true then (pure none : Sem (Option (List Str))) else _) = pure r
  rw [hb, Bool.or_false]
  split at e
  · rename_i c
    cases e
    exact if_pos c
  · rename_i c
    refine (if_neg c).trans ?_
    split at e
    · rename_i c
      cases e
      exact if_pos c
    · rename_i c
      refine (if_neg c).trans ?_
      dsimp only at e
      split at e
      · rename_i c
        cases e
        exact if_pos c
      · rename_i c
        refine (if_neg c).trans ?_
        split at e
        · rename_i c
          cases e
          exact if_pos c
        · rename_i c
          refine (if_neg c).trans ?_
          split at e
          · cases e
          · rename_i c
            cases e
            exact (if_neg c).trans rfl
def notTup : Expr → Bool
  | .Tuple _ _ _ => false
  | _ => true
theorem sole_tup {ts : List Expr} {kt : Nat} {pt : Pos} {e : Expr} {l : Nat} {env : Env} : swapsWithSole [.Tuple ts kt pt] e l env = pure false := by
  cases e <;> rfl
theorem sole_sub {o i : Expr} {pt : Pos} {e : Expr} {l : Nat} {env : Env} : swapsWithSole [.Subscript o i pt] e l env = pure false := by
  cases e <;> rfl
theorem swap_tup {ts : List Expr} {kt : Nat} {pt : Pos} {e : Expr} {env : Env} (h : notTup e = true) : swappedStores [.Tuple ts kt pt] e env = pure none := by
  cases e <;> first | rfl | cases h
theorem swap_sub {o i : Expr} {pt : Pos} {e : Expr} {env : Env} : swappedStores [.Subscript o i pt] e env = pure none := by
  cases e <;> rfl
section
variable {cc : CC} {a b c : Expr} {pos p1 p2 p3 kpos : Pos} {es : List Expr}
def cAsg (A : OkE cc a) (x : Str) : Option (OkS cc (.Assign [.Name x p1] a pos)) :=
  match findN x cc.N 0 with
  | some i => if h : cc.N[i]? = some x ∧ cc.loc x = true ∧ notComp a = true then some ⟨.asg i A.E, fun X cl Φ k W g => s_asg g.g.nd (by rw [g.g.N]; exact h.1) (g.g.loc h.2.1).1 (A.pe X cl Φ k W g.g g.tk) (swap_ok h.2.2) (g.g.loc h.2.1).2⟩ else none
  | none => none
def cAsgL {elt : Expr} {gs : List Comprehension} {scope : Scope} (A : OkL cc elt gs scope p2) (x : Str) : Option (OkS cc (.Assign [.Name x p1] (.ListComp elt gs scope p2) pos)) :=
  match findN x cc.N 0 with
  | some i => if h : cc.N[i]? = some x ∧ cc.loc x = true then some ⟨.asg i A.E, fun X cl Φ k W g => by
      have hi : X.N[i]? = some x := by rw [g.g.N]; exact h.1
      cases e : swB X.env.scope scope x p1 p2 with
      | true =>
        refine A.ps X cl Φ k W g.g g.tk i x p1 pos hi ?_ (by rw [swap_comp g.g.kind, e])
        unfold swB at e
        simp only [Bool.and_eq_true] at e
        exact beq_iff_eq.mp e.1.1
      | false => exact s_asg g.g.nd hi (g.g.loc h.2).1 (A.pe X cl Φ k W g.g g.tk) (by rw [swap_comp g.g.kind, e]) (g.g.loc h.2).2⟩ else none
  | none => none
def cPar {ts : List Expr} {kt k2 : Nat} (B : OkN cc ts) (A : OkEs cc es) : Option (OkS cc (.Assign [.Tuple ts kt p1] (.Tuple es k2 p2) pos)) :=
  if h : swapQ cc.sc ts es = some none ∧ cc.calm = true ∧ es.length ≤ 1000 then some ⟨.par B.is A.E, fun X cl Φ k W g =>
    s_parT (A.pa X cl Φ k W g.g g.tk) (by rw [A.ln]; exact h.2.2) (pg_tup (g.g.calm h.2.1) (B.ok X cl Φ k g.g) (by rw [(B.ns X.env).1, B.ln]) (B.ns X.env).2) sole_tup (swapQ_ok g.g.kind (by rw [g.g.sc]; exact h.1)) rfl⟩ else none
def cPar2 {kt k2 : Nat} {px py : Pos} (A : OkEs cc [a, b]) (x y : Str) : Option (OkS cc (.Assign [.Tuple [.Name x px, .Name y py] kt p1] (.Tuple [a, b] k2 p2) pos)) :=
  match findN x cc.N 0, findN y cc.N 0 with
  | some i, some j => if h : swapQ cc.sc [.Name x px, .Name y py] [a, b] = some (some [x, y]) ∧ cc.calm = true ∧ cc.N[i]? = some x ∧ cc.N[j]? = some y ∧ i ≠ j ∧ cc.sc.names.lookup x = some .local ∧ cc.sc.names.lookup y = some .local then some ⟨.par [i, j] A.E, fun X cl Φ k W g =>
      s_par2 (g.g.calm h.2.1) g.g.nd (by rw [g.g.N]; exact h.2.2.1) (by rw [g.g.N]; exact h.2.2.2.1) h.2.2.2.2.1 (by rw [g.g.sc]; exact h.2.2.2.2.2.1) (by rw [g.g.sc]; exact h.2.2.2.2.2.2) (A.pa X cl Φ k W g.g g.tk) (swapQ_ok g.g.kind (by rw [g.g.sc]; exact h.1)) sole_tup⟩ else none
  | _, _ => none
def cPar3 {kt k2 : Nat} {px py pz : Pos} (A : OkEs cc [a, b, c]) (x y z : Str) : Option (OkS cc (.Assign [.Tuple [.Name x px, .Name y py, .Name z pz] kt p1] (.Tuple [a, b, c] k2 p2) pos)) :=
  match findN x cc.N 0, findN y cc.N 0, findN z cc.N 0 with
  | some i, some j, some l => if h : swapQ cc.sc [.Name x px, .Name y py, .Name z pz] [a, b, c] = some (some [x, y, z]) ∧ cc.calm = true ∧ cc.N[i]? = some x ∧ cc.N[j]? = some y ∧ cc.N[l]? = some z ∧ (i ≠ j ∧ i ≠ l ∧ j ≠ l) ∧ cc.sc.names.lookup x = some .local ∧ cc.sc.names.lookup y = some .local ∧ cc.sc.names.lookup z = some .local then some ⟨.par [i, j, l] A.E, fun X cl Φ k W g => by
      obtain ⟨h1, h2, h3, h4, h5, ⟨h6, h7, h8⟩, h9, h10, h11⟩ := h
      exact s_par3 (g.g.calm h2) g.g.nd (by rw [g.g.N]; exact h3) (by rw [g.g.N]; exact h4) (by rw [g.g.N]; exact h5) h6 h7 h8 (by rw [g.g.sc]; exact h9) (by rw [g.g.sc]; exact h10) (by rw [g.g.sc]; exact h11) (A.pa X cl Φ k W g.g g.tk) (swapQ_ok g.g.kind (by rw [g.g.sc]; exact h1)) sole_tup⟩ else none
  | _, _, _ => none
def cTupa {ts : List Expr} {kt : Nat} (B : OkN cc ts) (A : OkE cc a) : Option (OkS cc (.Assign [.Tuple ts kt p1] a pos)) :=
  if h : notTup a = true ∧ cc.calm = true then some ⟨.tupa B.is A.E, fun X cl Φ k W g =>
    s_tupa (A.pe X cl Φ k W g.g g.tk) (pg_tup (g.g.calm h.2) (B.ok X cl Φ k g.g) (by rw [(B.ns X.env).1, B.ln]) (B.ns X.env).2) sole_tup (swap_tup h.1) rfl⟩ else none
theorem assign_sub {o i : Expr} {env : Env} {p : Pos} (h : plainIx i = true) : ∀ v, assign (.Subscript o i p) env v = (do
      let ov ← holding [v] (eval o env)
      let iv ← holding [v, ov] (eval i env)
      standAt p
      holding [v, ov, iv] (setItem ov iv v)
      release [v, ov, iv] []) := by
  intro v
  cases i <;> first | rfl | cases h
def cSub (O : OkE cc b) (I : OkE cc c) (A : OkE cc a) : Option (OkS cc (.Assign [.Subscript b c p1] a pos)) :=
  if h : plainIx c = true then some ⟨.sub O.E I.E A.E, fun X cl Φ k W g => s_sub (by have := g.g.un; omega) (A.pe X cl Φ k W g.g g.tk) (O.pe X cl Φ k W g.g g.tk) (I.pe X cl Φ k W g.g g.tk) (assign_sub h) sole_sub swap_sub rfl⟩ else none
def cExpr (A : OkE cc a) : Option (OkS cc (.Expr a pos)) := if h : notComp a = true then some ⟨.expr A.E, fun X cl Φ k W g => s_expr (A.pe X cl Φ k W g.g g.tk) (swap_ok h)⟩ else none
def cRet (A : OkE cc a) : OkS cc (.Return (some a) pos) := ⟨.ret A.E, fun X cl Φ k W g => s_ret (A.pe X cl Φ k W g.g g.tk)⟩
variable {sa sb : List Stmt}
def cIfS (C : OkE cc c) (A : OkSs cc sa) (B : OkSs cc sb) : Option (OkS cc (.If c sa sb pos)) :=
  if h : notIf c = true then some ⟨.ite C.E A.S B.S, fun X cl Φ k W g => s_if (C.pt h X cl Φ k W g.g g.tk) (A.ps X cl Φ k W g) (B.ps X cl Φ k W g)⟩ else none
def cWhile (C : OkE cc c) (A : OkSs cc sa) : Option (OkS cc (.While c sa [] pos)) :=
  if h : notIf c = true ∧ cc.calm = true then some ⟨.while C.E A.S, fun X cl Φ k W g => s_while (g.pass h.2) (C.pt h.1 X cl Φ k W g.g g.tk) (A.ps X cl Φ k W g)⟩ else none
def cFor (G : OkG cc a) (I : OkI cc a b) (A : OkSs cc sa) : Option (OkS cc (.For a b sa [] pos)) :=
  if h : cc.calm = true then some ⟨.for G.G I.I A.S, fun X cl Φ k W g => s_for (g.pass h) (g.g.calm h) (I.pi X cl Φ k W g.g g.tk) (G.pg X cl Φ k g.g) (A.ps X cl Φ k W g) (fold_ok I.ns)⟩ else none
def cRaise (x : Str) {m : Str} {j : Nat} : Option (OkS cc (.Raise (some (.Call (.Name x p1) [.Constant (.str m) j p2] [] p3)) none pos)) :=
  match findN x cc.exs 0 with
  | some i => if h : cc.exs[i]? = some x ∧ cc.calm = true ∧ cc.gl x = true ∧ (x == ("__debug__" : Str)) = false then some ⟨.raise i, fun X cl Φ k W g => by
      obtain ⟨C, B, newId, initId, bmB, F, q, gC, kC, r, e⟩ := (g.g.exs i x h.1).ex
      exact s_raise (g.g.calm h.2.1) g.tk (pmk_own F q gC kC r (g.g.gl h.2.2.1) h.2.2.2) e⟩ else none
  | none => none
/-! ### try -/
theorem Gd.tr {X : Cx} {cl : Nat → Value} {Φ : Calls} {k : Nat} (g : Gd X cc cl Φ k) (pn : List (Addr × Obj)) (xe : Value → Shared → Prop) : Gd (X.tr pn xe) cc cl Φ k :=
  { N := g.N
    nd := g.nd
    sc := g.sc
    kind := g.kind
    fn := g.fn
    calm := g.calm
    room := g.room
    fns := fun x i ps h => ⟨(g.fns x i ps h).ex⟩
    cons := g.cons
    free := g.free
    exs := fun i x h => ⟨(g.exs i x h).ex⟩
    cats := g.cats }
def CC.low (cc : CC) : CC := { cc with calm := false }
theorem mark_units {A : Around} {v : Option Value} : (A.mark v).units = A.units := rfl
theorem Gd.low {X : Cx} {cl : Nat → Value} {Φ : Calls} {k : Nat} (g : Gd X cc cl Φ k) (a : Addr) (pn : List (Addr × Obj)) : Gd (X.suite a pn) cc.low cl Φ k :=
  { N := g.N
    nd := g.nd
    sc := g.sc
    kind := g.kind
    fn := g.fn
    calm := fun h => by cases h
    room := .inr ⟨rfl, g.un⟩
    fns := fun x i ps h => ⟨(g.fns x i ps h).ex⟩
    cons := g.cons
    free := g.free
    exs := fun i x h => ⟨(g.exs i x h).ex⟩
    cats := g.cats }
structure OkHs (cc : CC) (hs : List ExceptHandler) where
  H : Hs
  ok : ∀ (X : Cx) (cl : Nat → Value) (Φ : Calls) (k : Nat) (W : WX), GdS X cc cl Φ k W → HdsOk X hs (hdL X.K cl Φ H) ∧ HsOk X.K cl cc.exs.length H
def cH0 : OkHs cc [] := ⟨.nil, fun _ _ _ _ _ _ => ⟨.nil, trivial⟩⟩
def cH1 {s : Stmt} {ss : List Stmt} {hs : List ExceptHandler} (x : Str) (A : OkSs cc.low (s :: ss)) (B : OkHs cc hs) : Option (OkHs cc (.ExceptHandler (some (.Name x p1)) none (s :: ss) pos :: hs)) :=
  match findN x cc.exs 0 with
  | some i => match hcs : cc.cats[i]? with
    | some cs => if h : cc.exs[i]? = some x ∧ cc.gl x = true ∧ (x == ("__debug__" : Str)) = false then some ⟨.cons i cs A.S B.H, fun X cl Φ k W g => by
        obtain ⟨C, _, _, _, _, F, q, gC, kC, r, e⟩ := (g.g.exs i x h.1).ex
        obtain ⟨h1, h2⟩ := B.ok X cl Φ k W g
        refine ⟨.cons ⟨g.g.gl h.2.1, h.2.2, .inl (by rw [e]; exact gC)⟩ (fun a oe cls d pn _ _ => A.ps (X.suite a ((a, oe) :: pn)) cl Φ k W0 ⟨g.g.low a _, takes_W0, g.stack, g.frame, fun h => by cases h⟩) h1, g.g.cats i cs hcs, h2⟩⟩ else none
    | none => none
  | none => none
def cTry {h : ExceptHandler} {hs : List ExceptHandler} (A : OkSs cc sa) (B : OkHs cc (h :: hs)) : OkS cc (.Try sa (h :: hs) [] [] pos) :=
  ⟨.try cc.exs.length A.S B.H, fun X cl Φ k W g => s_try g.stack g.frame g.tk (fun W2 pn xe tk hp => A.ps (X.tr pn xe) cl Φ k W2 ⟨g.g.tr pn xe, tk, g.stack, g.frame, fun _ => hp⟩) (B.ok X cl Φ k W g).1 (B.ok X cl Φ k W g).2⟩
def cS0 : OkSs cc [] := ⟨.nil, fun _ _ _ _ _ _ => ss_nil⟩
def cS1 {s : Stmt} {ss : List Stmt} (A : OkS cc s) (B : OkSs cc ss) : OkSs cc (s :: ss) := ⟨.cons A.S B.S, fun X cl Φ k W g => ss_cons (A.ps X cl Φ k W g) (B.ps X cl Φ k W g)⟩
end
def cLockS {cc : CC} {s : Stmt} (v : Nat) (A : OkS cc s) : OkS cc s := ⟨.lock v A.S, fun X cl Φ k W g => s_lock (A.ps X cl Φ k W g)⟩
/-! ### the whole -/
mutual
def cS : Nat → (cc : CC) → (s : Stmt) → Option (OkS cc s)
  | 0, _, _ => none
  | n + 1, cc, .Pass pos => some ⟨.pass, fun _ _ _ _ _ _ => s_pass⟩
  | n + 1, cc, .Break pos => some ⟨.brk, fun _ _ _ _ _ _ => s_brk⟩
  | n + 1, cc, .Continue pos => some ⟨.cont, fun _ _ _ _ _ _ => s_cont⟩
  | n + 1, cc, .Return none pos => some ⟨.retN, fun _ _ _ _ _ _ => s_retN⟩
  | n + 1, cc, .Return (some a) pos => do
    let A ← cE n cc a
    some (cRet A)
  | n + 1, cc, .Expr a pos => do
    let A ← cE n cc a
    cExpr A
  | n + 1, cc, .Assign [.Name x p1] (.ListComp elt gs scope p2) pos => do
    let A ← cL n cc elt gs scope p2
    cAsgL A x
  | n + 1, cc, .Assign [.Name x p1] a pos => do
    let A ← cE n cc a
    cAsg A x
  | n + 1, cc, .Assign [.Tuple [.Name x px, .Name y py] kt p1] (.Tuple [a, b] k2 p2) pos => do
    let A ← cEs n cc [a, b]
    match cPar2 A x y with
    | some r => some r
    | none => do
      let B ← cNs (cc := cc) [.Name x px, .Name y py]
      cPar B A
  | n + 1, cc, .Assign [.Tuple [.Name x px, .Name y py, .Name z pz] kt p1] (.Tuple [a, b, c] k2 p2) pos => do
    let A ← cEs n cc [a, b, c]
    match cPar3 A x y z with
    | some r => some r
    | none => do
      let B ← cNs (cc := cc) [.Name x px, .Name y py, .Name z pz]
      cPar B A
  | n + 1, cc, .Assign [.Tuple ts kt p1] (.Tuple es k2 p2) pos => do
    let A ← cEs n cc es
    let B ← cNs (cc := cc) ts
    cPar B A
  | n + 1, cc, .Assign [.Tuple ts kt p1] a pos => do
    let A ← cE n cc a
    let B ← cNs (cc := cc) ts
    cTupa B A
  | n + 1, cc, .Assign [.Subscript o i p1] a pos => do
    let O ← cE n cc o
    let I ← cE n cc i
    let A ← cE n cc a
    cSub O I A
  | n + 1, cc, .If c sa sb pos => do
    let C ← cE n cc c
    let A ← cSs n cc sa
    let B ← cSs n cc sb
    cIfS C A B
  | n + 1, cc, .While c sa [] pos => do
    let C ← cE n cc c
    let A ← cSs n cc sa
    cWhile C A
  | n + 1, cc, .For a b sa [] pos => do
    let G ← cTg (cc := cc) a
    let I ← cI n cc a b
    let A ← cSs n cc sa
    let F ← cFor G I A
    match dictIt cc b with
    | some v => some (cLockS v F)
    | none => some F
  | n + 1, cc, .Raise (some (.Call (.Name x p1) [.Constant (.str m) j p2] [] p3)) none pos => cRaise x
  | n + 1, cc, .Try sa (h :: hs) [] [] pos => do
    let A ← cSs n cc sa
    let B ← cHs n cc (h :: hs)
    some (cTry A B)
  | _ + 1, _, _ => none
def cSs : Nat → (cc : CC) → (ss : List Stmt) → Option (OkSs cc ss)
  | 0, _, _ => none
  | n + 1, cc, [] => some cS0
  | n + 1, cc, s :: ss => do
    let A ← cS n cc s
    let B ← cSs n cc ss
    some (cS1 A B)
def cHs : Nat → (cc : CC) → (hs : List ExceptHandler) → Option (OkHs cc hs)
  | 0, _, _ => none
  | n + 1, cc, [] => some cH0
  | n + 1, cc, .ExceptHandler (some (.Name x p1)) none (s :: ss) pos :: hs => do
    let A ← cSs n cc.low (s :: ss)
    let B ← cHs n cc hs
    cH1 x A B
  | _ + 1, _, _ => none
end
end Ev

/-! Ev21: defs and the whole text -/
namespace Ev
open PySem PySem.Spec PyProof.Rows L2 RZ
structure DE where
  d : He.DefD
  ps : List Str
  N : List Str
  dn : List Str := []
structure Prg where
  ds : List DE
  kws : List (Str × Nat)
  cons : List (Str × Str)
  exs : List Str
  cats : List (List Nat)
  free : List Str
def fnsOf : List DE → Nat → List (Str × Nat × List Str)
  | [], _ => []
  | d :: ds, i => (d.d.name, i, d.ps) :: fnsOf ds (i + 1)
theorem fnsOf_mem : ∀ {ds : List DE} {j : Nat} {x : Str} {i : Nat} {ps : List Str}, (x, i, ps) ∈ fnsOf ds j → ∃ d n, i = j + n ∧ ds[n]? = some d ∧ d.d.name = x ∧ d.ps = ps
  | d :: ds, j, x, i, ps, h => by
    rcases List.mem_cons.mp h with h | h
    · cases h
      exact ⟨d, 0, rfl, rfl, rfl, rfl⟩
    · obtain ⟨d', n, e, h1, h2, h3⟩ := fnsOf_mem h
      exact ⟨d', n + 1, by omega, by simpa using h1, h2, h3⟩
def Prg.fns (pr : Prg) : List (Str × Nat × List Str) := fnsOf pr.ds 0
def Prg.fn (pr : Prg) : List He.DefD := pr.ds.map (·.d)
def exmL (exs : List Str) (x : Str) (k : Nat) : List Str → List (List Nat) → List He.Fa
  | y :: ys, c :: cs => .exm x y (decide (k ∈ c)) :: exmL exs x k ys cs
  | _, _ => []
def exmA (exs : List Str) (cats : List (List Nat)) : List Str → Nat → List He.Fa
  | [], _ => []
  | x :: xs, k => exmL exs x k exs cats ++ exmA exs cats xs (k + 1)
def Prg.fa (pr : Prg) : List He.Fa := pr.ds.map (fun d => .glo d.d.name) ++ (pr.exs.map .glo ++ (pr.cons.map (fun p => .str p.1 p.2) ++ (pr.free.map .free ++ (pr.exs.map .exc ++ exmA pr.exs pr.cats pr.exs 0))))
def clOf (K : PySem.W.Frag) (exs : List Str) (i : Nat) : Value := match exs[i]? with
  | some x => .ref (He.ga K x)
  | none => .none
def ccOf (pr : Prg) (d : DE) : CC := { N := d.N, sc := d.d.scope, fn := fun _ => true, calm := true, fns := pr.fns, kws := pr.kws, cons := pr.cons, exs := pr.exs, cats := pr.cats, free := pr.free, dn := d.dn }
def fsC (N ps : List Str) (sc : Scope) : Bool :=
  (match sc.kind with | .function => true | _ => false) && !sc.isCoroutine && !sc.isGenerator && decide N.Nodup && decide (N.take ps.length = ps) && (ps.all fun x => match sc.names.lookup x with | some .local => true | some .cell => true | _ => false) && sc.names.all fun y => match y.2 with | .free => false | _ => true
theorem fsC_ok {N ps : List Str} {sc : Scope} (h : fsC N ps sc = true) : FnScope N ps sc := by
  unfold fsC at h
  simp only [Bool.and_eq_true, decide_eq_true_eq, List.all_eq_true] at h
  obtain ⟨⟨⟨⟨⟨⟨h1, h2⟩, h3⟩, h4⟩, h5⟩, h6⟩, h7⟩ := h
  refine ⟨?_, by simpa using h2, by simpa using h3, h4, h5, fun x hx => ?_, fun y hy e => ?_⟩
  · split at h1
    · assumption
    · cases h1
  · have := h6 x hx
    split at this
    · rename_i e; exact .inl e
    · rename_i e; exact .inr e
    · cases this
  · have := h7 y hy
    rw [e] at this
    cases this
def kwN : List (Str × Nat) → Str → List Nat
  | [], _ => []
  | p :: kws, x => if p.1 = x then p.2 :: kwN kws x else kwN kws x
theorem kwN_mem : ∀ {kws : List (Str × Nat)} {x : Str} {n : Nat}, (x, n) ∈ kws → n ∈ kwN kws x
  | p :: kws, x, n, h => by
    unfold kwN
    rcases List.mem_cons.mp h with h | h
    · subst h
      rw [if_pos rfl]
      exact List.mem_cons_self
    · split
      · exact List.mem_cons_of_mem _ (kwN_mem h)
      · exact kwN_mem h
inductive AllN (P : Nat → Prop) : List Nat → Prop
  | nil : AllN P []
  | cons {n : Nat} {l : List Nat} : P n → AllN P l → AllN P (n :: l)
theorem AllN.mem {P : Nat → Prop} {n : Nat} : ∀ {l : List Nat}, AllN P l → n ∈ l → P n
  | _, .cons h t, m => by
    rcases List.mem_cons.mp m with rfl | m
    · exact h
    · exact t.mem m
/-- how the arguments bind -/
def BindE (kws : List (Str × Nat)) (d : DE) : Prop :=
  (∀ (kV doc pm : Value) (an : Option Addr) (cdv ct : Value) (us : List Value), us.length = d.ps.length → bindArgs (PySem.W.fnOf d.d.name d.d.qual d.d.params d.d.body d.d.scope .none kV doc pm an cdv ct) ⟨us, []⟩ = pure (d.ps.zip us)) ∧
  ∃ l, kwN kws d.d.name = l ∧ AllN (fun n => ∀ (kV doc pm : Value) (an : Option Addr) (cdv ct : Value) (us ws : List Value), us.length = n → ws.length = (d.ps.drop n).length → bindArgs (PySem.W.fnOf d.d.name d.d.qual d.d.params d.d.body d.d.scope .none kV doc pm an cdv ct) ⟨us, (d.ps.drop n).zip ws⟩ = pure (d.ps.zip (us ++ ws))) l
structure ChkD (pr : Prg) (d : DE) (fd : FD) : Prop where
  np : fd.np = d.ps.length
  n : fd.n = d.N.length
  code : ((cSs 60 (ccOf pr d) d.d.body).map OkSs.S) = some fd.body
  fs : fsC d.N d.ps d.d.scope = true
  dfl : d.d.dfl = []
  kwd : d.d.kwd = []
  at_ : d.d.at_ = (d.d.name, none)
  bind : BindE pr.kws d
theorem RR.ext {K : PySem.W.Frag} {al ex : List Addr} {fz : Addr → Prop} {H : Hp} {v : V} {r : R} (h : RR K al fz H v r) (nf : ∀ b, r ≠ .f b) : RR K (al ++ ex) fz H v r := by
  cases r with
  | d x => exact h
  | o i =>
    obtain ⟨a, e, ha⟩ := h
    refine ⟨a, e, ?_⟩
    rw [List.getElem?_append_left (List.getElem?_eq_some_iff.mp ha).1]
    exact ha
  | f b => exact absurd rfl (nf b)
theorem allocs_ok {K : PySem.W.Frag} {H H0 : Hp} {fz fz0 : Addr → Prop} : ∀ {vs : List V} {rs : List R} {al : List Addr} {st : List Ob}, Go al fz0 H0 fz H → Ok K al fz st H → Ars K al fz H0 H vs rs →
    ∃ ex, GoX al fz0 H0 (al ++ ex) fz H ∧ Ok K (al ++ ex) fz (allocs rs st).2 H ∧ Paired (fun v r => RR K (al ++ ex) fz H v r ∧ ∀ b, r ≠ .f b) vs (allocs rs st).1
  | [], rs, al, st, g, ok, t => by
    have hrr := t.rr
    cases hrr
    exact ⟨[], by rw [List.append_nil]; exact .of g, by rw [List.append_nil]; exact ok, .nil⟩
  | v :: vs, rs, al, st, g, ok, t => by
    have hrr := t.rr
    cases hrr with
    | @cons _ r _ rs h hr =>
      have fr : Fresh H0 v r := fun b a e1 e2 => by
        subst e1 e2
        exact t.fr a List.mem_cons_self
      obtain ⟨al', gx, ok2, rr2, nf, ex, rfl, hex⟩ := alloc_go ok g h fr
      have t2 := t.tail
      have dj : ∀ a ∈ ex, a ∉ frA vs rs := fun a m z => by
        obtain ⟨b, rfl, rfl⟩ := hex a m
        exact (List.nodup_cons.mp t.nd).1 z
      have t3 : Ars K (al ++ ex) fz H0 H vs rs := ⟨rr_ext dj t2.rr, t2.fr, t2.nd⟩
      have gg : Go (al ++ ex) fz0 H0 fz H := ⟨fun a o h n => g.keep a o h fun m => n (List.mem_append_left _ m), g.there, g.sub, g.new, g.lk⟩
      obtain ⟨ex2, gx2, ok3, p3⟩ := allocs_ok gg ok2 t3
      refine ⟨ex ++ ex2, ?_, by rw [← List.append_assoc]; exact ok3, .cons ⟨?_, nf⟩ (by rw [← List.append_assoc]; exact p3)⟩
      · obtain ⟨⟨ex1, h1, h2⟩, _⟩ := gx
        obtain ⟨⟨ex3, h3, h4⟩, _⟩ := gx2
        have : ex1 = ex := (List.append_cancel_left h1).symm
        subst this
        have : ex3 = ex2 := (List.append_cancel_left h3).symm
        subst this
        refine ⟨⟨ex1 ++ ex3, rfl, fun a m => ?_⟩, g⟩
        rcases List.mem_append.mp m with m | m
        · exact h2 a m
        · exact h4 a m
      · rw [← List.append_assoc]
        exact rr2.ext nf
theorem startE_ok {K : PySem.W.Frag} {al : List Addr} {fz : Addr → Prop} {H : Hp} {N : List Str} {fd : FD} {vs : List V} {rs : List R} (hn : fd.n = N.length) (h : Paired (fun v r => RR K al fz H v r ∧ ∀ b, r ≠ .f b) vs rs) : EnvO K al fz H (L2.start N vs) (startE fd rs) := by
  have hl := paired_len h
  unfold L2.start startE
  rw [hn, ← hl]
  refine ⟨by simp [hl], fun i r e => ?_⟩
  by_cases c : i < rs.length
  · rw [List.getElem?_append_left (by simpa using c), List.getElem?_map] at e
    cases e2 : rs[i]? with
    | none =>
      rw [e2] at e
      cases e
    | some q =>
      rw [e2] at e
      cases e
      obtain ⟨v, hv, hr, nf⟩ := paired_at h e2
      refine ⟨nf, v, ?_, hr⟩
      rw [List.getElem?_append_left (by simp; omega), List.getElem?_map, hv]
      rfl
  · rw [List.getElem?_append_right (by simp; omega)] at e
    rw [List.getElem?_replicate] at e
    split at e <;> cases e
theorem paired_take2 {α β : Type} {F : α → β → Prop} {l : List α} {m : List β} {n : Nat} (h : Paired F l m) : Paired F (l.take n) (m.take n) := paired_take n h
/-- a def's own objects go -/
theorem Ok.cut {K : PySem.W.Frag} {al ex : List Addr} {fz : Addr → Prop} {H : Hp} {st : List Ob} (ok : Ok K (al ++ ex) fz st H) : Ok K al fz (st.take al.length) H :=
  ⟨(List.nodup_append.mp ok.nd).1, by
    have := paired_take al.length ok.obs
    rw [List.take_left] at this
    exact this, fun a m => ok.dis a (List.mem_append_left _ m), ok.trk⟩
/-- the call of a def: from what it promises to what its body does -/
theorem call_v {K : PySem.W.Frag} {cl : Nat → Value} {Φ Φ' : Calls} {f np : Nat} {fd : FD} {N : List Str} {vs : List V} {H : Hp} {Q : VK} {E : XK} (hΦ : ∀ rs st, Φ' f rs st = callF Φ fd rs st) (hn : fd.n = N.length) (h : spF K cl Φ' f np vs H Q E) :
    tSs K cl Φ (fun cls d _ H => E cls d H) fd.body { nx := fun _ H' => Q .non H', rt := Q } (L2.start N vs) H := by
  obtain ⟨_, al, fz0, H0, fz, st, rs, g, ok, t, h⟩ := h
  rw [hΦ] at h
  obtain ⟨ex, gx, ok1, pr⟩ := allocs_ok g ok t
  refine ⟨al ++ ex, fz, (allocs rs st).2, startE fd (allocs rs st).1, ok1, startE_ok hn pr, ?_⟩
  have hb : al.length = st.length := ok.len
  have hb2 : (al ++ ex).length = (allocs rs st).2.length := ok1.len
  unfold callF at h
  split at h
  · have cut : ∀ {al' : List Addr} {fz' : Addr → Prop} {H' : Hp} {st' : List Ob}, GoX (al ++ ex) fz H al' fz' H' → Ok K al' fz' st' H' → Go al fz0 H0 fz' H' ∧ Ok K al fz' (st'.take st.length) H' ∧ ∃ ex', al' = al ++ ex ++ ex' ∧ ∀ a ∈ ex', H0 a = none := fun {al' fz' H' st'} gx' ok' => by
      have gg := gx.trans gx'
      obtain ⟨⟨ex', e, hex⟩, _⟩ := gx'
      subst e
      have ok2 : Ok K (al ++ (ex ++ ex')) fz' st' H' := by
        rw [← List.append_assoc]
        exact ok'
      refine ⟨gg.go, ?_, ex', rfl, fun a m => gx.go.back (hex a m)⟩
      rw [← hb]
      exact ok2.cut
    cases e : exSs Φ fd.body (startE fd (allocs rs st).1) (allocs rs st).2 with
    | next env' st' =>
      rw [e] at h
      intro al' H' fz' σ' gx' ok' eo'
      obtain ⟨g1, ok2, _⟩ := cut gx' ok'
      have h : Post K al fz0 H0 (.d .none) (st'.take st.length) Q := h
      exact h _ H' fz' g1 ok2 .non Fresh.d
    | ret r st' =>
      rw [e] at h
      intro v al' H' fz' gx' ok' rr fr
      obtain ⟨g1, ok2, ex', rfl, hex'⟩ := cut gx' ok'
      have h : Dn K al fz0 H0 E cl (handB r st' st.length (allocs rs st).2.length) fun r st' => Post K al fz0 H0 r st' Q := h
      cases r with
      | d x =>
        have h : Post K al fz0 H0 (.d x) (st'.take st.length) Q := h
        exact h _ H' fz' g1 ok2 rr Fresh.d
      | f b =>
        have h : Post K al fz0 H0 (.f b) (st'.take st.length) Q := h
        refine h _ H' fz' g1 ok2 ?_ (fr.back g)
        obtain ⟨a, e1, e2, n, nf⟩ := rr
        exact ⟨a, e1, e2, fun m => n (List.mem_append_left _ (List.mem_append_left _ m)), nf⟩
      | o i =>
        obtain ⟨a, rfl, ha⟩ := rr
        unfold handB at h
        dsimp only at h
        by_cases c : i < st.length
        · rw [if_pos c] at h
          have h : Post K al fz0 H0 (.o i) (st'.take st.length) Q := h
          refine h _ H' fz' g1 ok2 ⟨a, rfl, ?_⟩ Fresh.o
          rw [List.append_assoc, List.getElem?_append_left (by omega)] at ha
          exact ha
        · rw [if_neg c] at h
          by_cases c2 : i < (allocs rs st).2.length
          · rw [if_pos c2] at h
            exact h.elim
          · rw [if_neg c2] at h
            obtain ⟨b, hb3, r⟩ := ok'.get ha
            rw [hb3] at h
            have h : Post K al fz0 H0 (.f b) (st'.take st.length) Q := h
            have m : a ∈ ex' := by
              rw [List.getElem?_append_right (by omega)] at ha
              exact List.mem_of_getElem? ha
            have nd := ok'.nd
            refine h _ H' fz' g1 ok2 ⟨a, rfl, r, fun m2 => ?_, ok'.dis a (List.mem_append_right _ m)⟩ fun b a' _ e => ?_
            · exact (List.nodup_append.mp nd).2.2 a (List.mem_append_left _ m2) a m rfl
            · cases e
              exact hex' a m
    | exc c env' st' =>
      rw [e] at h
      intro al' H' fz' σ' gx' ok' eo'
      obtain ⟨g1, ok2, _⟩ := cut gx' ok'
      have h : Xp K al fz0 H0 E cl c (st'.take st.length) := h
      exact h H' fz' g1 ok2
    | brk env' st' =>
      rw [e] at h
      exact h.elim
    | cont env' st' =>
      rw [e] at h
      exact h.elim
    | err =>
      rw [e] at h
      exact h.elim
  · exact h.elim
theorem exmL_mem {exs : List Str} {x : Str} {k : Nat} : ∀ {ys : List Str} {cs : List (List Nat)} {j : Nat} {y : Str} {c : List Nat}, ys[j]? = some y → cs[j]? = some c → He.Fa.exm x y (decide (k ∈ c)) ∈ exmL exs x k ys cs
  | y :: ys, c :: cs, 0, _, _, h1, h2 => by
    cases h1
    cases h2
    exact List.mem_cons_self
  | y :: ys, c :: cs, j + 1, _, _, h1, h2 => List.mem_cons_of_mem _ (exmL_mem (j := j) (by simpa using h1) (by simpa using h2))
theorem exmA_mem {exs : List Str} {cats : List (List Nat)} : ∀ {xs : List Str} {b k : Nat} {x : Str} {f : He.Fa}, xs[k]? = some x → f ∈ exmL exs x (b + k) exs cats → f ∈ exmA exs cats xs b
  | x :: xs, b, 0, _, f, h1, h2 => by
    cases h1
    exact List.mem_append_left _ h2
  | x :: xs, b, k + 1, _, f, h1, h2 => List.mem_append_right _ (exmA_mem (b := b + 1) (k := k) (by simpa using h1) (by rw [show b + 1 + k = b + (k + 1) by omega]; exact h2))
section
variable {P : Program} {w : World} {K : PySem.W.Frag} {h : Heap} {mg : Str → Option Value} {pr : Prg} {tb : List FD}
theorem prog_ok (KX : K.In h) (G : h.Ns mainGlobals mg) (c : He.SaysD pr.fa pr.fn K) (ck : Paired (ChkD pr) pr.ds tb) (hc : pr.cats.length ≤ pr.exs.length) (base : Heap) : ∀ (k i : Nat) (d : DE), pr.ds[i]? = some d →
    ∃ fd, FnOk P w K mg base (L2.CX P w) k (He.ga K d.d.name) fd d.ps (spF K (clOf K pr.exs) (calls tb k) i d.ps.length) ∧ mg d.d.name = some (.ref (He.ga K d.d.name)) ∧ PySem.W.keepIn K (.ref (He.ga K d.d.name)) = true ∧ Binds K fd d.ps [] ∧
      (∀ n, (d.d.name, n) ∈ pr.kws → KBn K fd d.ps n (d.ps.drop n) (fun us ws => us ++ ws) (fun vs zs => vs ++ zs)) ∧ (∀ (s : Shared) (us : List Value), us.length = d.ps.length → BindsTo s fd ⟨us, []⟩ (d.ps.zip us)) ∧ ∃ oc od osl, K.lookup (He.ga K d.d.name) = some ⟨oc, od, .func fd, osl⟩ := by
  have mem : ∀ {f : He.Fa}, f ∈ pr.fa → f.ok K = true := fun h => c.facts h
  have glo : ∀ {i : Nat} {d : DE}, pr.ds[i]? = some d → mg d.d.name = some (.ref (He.ga K d.d.name)) := fun {i d} hd => He.glo_ok KX G (mem (List.mem_append_left _ (List.mem_map.mpr ⟨d, List.mem_of_getElem? hd, rfl⟩)))
  have basic : ∀ {i : Nat} {d : DE}, pr.ds[i]? = some d → ∃ fd, FunD K d.d.name d.d.qual d.d.params d.d.body d.d.scope [] [] (He.ga K d.d.name) fd ∧ Binds K fd d.ps [] ∧ (∀ n, (d.d.name, n) ∈ pr.kws → KBn K fd d.ps n (d.ps.drop n) (fun us ws => us ++ ws) (fun vs zs => vs ++ zs)) ∧ (∀ (s : Shared) (us : List Value), us.length = d.ps.length → BindsTo s fd ⟨us, []⟩ (d.ps.zip us)) ∧ ∃ oc od osl, K.lookup (He.ga K d.d.name) = some ⟨oc, od, .func fd, osl⟩ := fun {i d} hd => by
    obtain ⟨t, ht, q⟩ := paired_at' ck hd
    obtain ⟨fd, F⟩ := c.defs (d := d.d) (List.mem_map.mpr ⟨d, List.mem_of_getElem? hd, rfl⟩)
    have e1 : He.DefD.dvs K d.d = [] := by
      unfold He.DefD.dvs
      rw [q.dfl]
      rfl
    have e2 : He.DefD.kws K d.d = [] := by
      unfold He.DefD.kws
      rw [q.kwd]
      rfl
    have e3 : He.fAd K d.d.at_ = He.ga K d.d.name := by
      rw [q.at_]
      rfl
    rw [e1, e2, e3] at F
    refine ⟨fd, F, F.bindsN q.bind.1, fun n hn => ⟨fun s us ws X l1 l2 => ?_, fun r1 r2 => r1.append r2⟩, fun s us hl => FunD.bindsA F q.bind.1 s us hl, by
      obtain ⟨oc, od, dV, kV, doc, pm, an, cdv, ct, osl, e, lk, _⟩ := F.ex
      exact ⟨oc, od, osl, lk⟩⟩
    obtain ⟨oc, od, dV, kV, doc, pm, an, cdv, ct, osl, rfl, lk, hcd, hD, hK⟩ := F.ex
    rcases hD with ⟨_, rfl⟩ | ⟨e, _⟩
    · obtain ⟨l, e, al⟩ := q.bind.2
      exact .of_eq (al.mem (by rw [← e]; exact kwN_mem hn) kV doc pm an cdv ct us ws l1 l2)
    · exact absurd rfl e
  intro k
  induction k with
  | zero =>
    intro i d hd
    obtain ⟨fd, F, b, kb, lk⟩ := basic hd
    refine ⟨fd, ⟨fun vs H Q E z => z.1, fun A outer s H args us vs Q E _ _ _ _ z => ?_⟩, glo hd, F.kp, b, kb, lk⟩
    obtain ⟨_, _, _, _, _, _, _, _, _, _, z⟩ := z
    exact z.elim
  | succ k ih =>
    intro i d hd
    obtain ⟨fd, F, b, kb, lk⟩ := basic hd
    obtain ⟨t, ht, q⟩ := paired_at' ck hd
    refine ⟨fd, F.ok (CX := L2.CX P w) (fsC_ok q.fs) (fun vs H Q E z => z.1) (fun cdv A outer s H vs Q E hr z => ?_), glo hd, F.kp, b, kb, lk⟩
    have hΦ : ∀ rs st, calls tb (k + 1) i rs st = callF (calls tb k) t rs st := fun rs st => by
      show (match tb[i]? with | some fd => callF (calls tb k) fd rs st | none => .err) = _
      rw [ht]
    refine ⟨_, ?_, call_v hΦ q.n z⟩
    have code := q.code
    cases ec : cSs 60 (ccOf pr d) d.d.body with
    | none =>
      rw [ec] at code
      cases code
    | some A =>
      rw [ec] at code
      have e2 : t.body = A.S := (Option.some.inj code).symm
      rw [e2]
      refine A.ps _ (clOf K pr.exs) (calls tb k) k _ ⟨?_, takes_of rfl rfl rfl rfl, rfl, rfl, fun _ => passes_of rfl⟩
      exact
        { N := rfl
          nd := (fsC_ok q.fs).nd
          sc := rfl
          kind := (fsC_ok q.fs).kind
          fn := rfl
          calm := fun _ => rfl
          room := .inl hr
          fns := fun x j ps hm => by
            obtain ⟨d', n, e, hd', rfl, rfl⟩ := fnsOf_mem hm
            have : j = n := by omega
            subst this
            obtain ⟨fd', h1, h2, h3, h4, h5, _⟩ := ih j d' hd'
            exact ⟨_, fd', h1, h2, h3, h4, h5⟩
          cons := fun x t hm => by
            obtain ⟨tk, e⟩ := He.str_ok KX G (mem (f := .str x t) (List.mem_append_right _ (List.mem_append_right _ (List.mem_append_left _ (List.mem_map.mpr ⟨(x, t), hm, rfl⟩)))))
            exact ⟨_, e, tk, rfl⟩
          free := fun x hm => He.free_ok KX G (mem (List.mem_append_right _ (List.mem_append_right _ (List.mem_append_right _ (List.mem_append_left _ (List.mem_map.mpr ⟨x, hm, rfl⟩))))))
          exs := fun j x hj => by
            have hm := List.mem_of_getElem? hj
            have e1 := He.glo_ok KX G (mem (f := .glo x) (List.mem_append_right _ (List.mem_append_left _ (List.mem_map.mpr ⟨x, hm, rfl⟩))))
            obtain ⟨h1, h2, h3, h4⟩ := He.exc_ok (mem (f := .exc x) (List.mem_append_right _ (List.mem_append_right _ (List.mem_append_right _ (List.mem_append_right _ (List.mem_append_left _ (List.mem_map.mpr ⟨x, hm, rfl⟩)))))))
            refine ⟨He.ga K x, "ValueError", "ValueError.__new__", "ValueError.__init__", _, PySem.F.excBase_ValueError, h1, e1, h2, raises_own h3 h4, ?_⟩
            unfold clOf
            have hj : pr.exs[j]? = some x := hj
            rw [hj]
          cats := fun j cs hj m hm => by
            have hm : m < pr.exs.length := hm
            have hj : pr.cats[j]? = some cs := hj
            have hj2 : j < pr.exs.length := Nat.lt_of_lt_of_le (List.getElem?_eq_some_iff.mp hj).1 hc
            have e1 : pr.exs[m]? = some pr.exs[m] := List.getElem?_eq_getElem hm
            have e2 : pr.exs[j]? = some pr.exs[j] := List.getElem?_eq_getElem hj2
            have := He.exm_ok (mem (f := .exm pr.exs[m] pr.exs[j] (decide (m ∈ cs))) (List.mem_append_right _ (List.mem_append_right _ (List.mem_append_right _ (List.mem_append_right _ (List.mem_append_right _ (exmA_mem (b := 0) e1 (by rw [Nat.zero_add]; exact exmL_mem e2 hj))))))))
            show PySem.W.exmOne K (clOf K pr.exs m) (clOf K pr.exs j) = _
            unfold clOf
            rw [e1, e2]
            exact this }
end
abbrev L2P {α β : Type} (F : α → β → Prop) : List α → List β → Prop := Paired F
/-- exceptions, whatever the world -/
def CXw (P : Program) : CXT := fun outer H s E e s' => ∃ w, L2.CX P w outer H s E e s'
theorem cxw_end {P : Program} (H : Hp) (s : Shared) (e : Value) (s' : Shared) (h : CXw P [] H s (fun _ _ _ => False) e s') : False := by
  obtain ⟨w, a, B, H', cls, d, _, _, _, _, _, _, _, z⟩ := h
  exact z
theorem FnOk.cxw {P : Program} {w : World} {K : PySem.W.Frag} {mg : Str → Option Value} {base : Heap} {k : Nat} {f : Addr} {fd : FuncData} {ps : List Str} {sp : Sp} (F : FnOk P w K mg base (L2.CX P w) k f fd ps sp) : FnOk P w K mg base (CXw P) k f fd ps sp :=
  ⟨F.len, fun A outer s H args us vs Q E hr he hb hv hs => codeAny_mono (F.run A outer s H args us vs Q E hr he hb hv hs) fun r s' q => by
    cases r with
    | error e => exact ⟨w, q⟩
    | ok fl =>
      cases fl with
      | ret u => exact q
      | next => exact q
      | brk => exact q
      | cont => exact q⟩
theorem room_top {k : Nat} (h : k ≤ 230) : Room k callerA := by
  have h1 : recursionLimit = 1000 := rfl
  have h2 : callerA.depth = 301 := rfl
  have h3 : cLine = 9900 := rfl
  have h4 : callerA.units = 4 := rfl
  exact ⟨rfl, by omega, by omega⟩
theorem rps_ints {K : PySem.W.Frag} {H : Hp} {fz : Addr → Prop} : ∀ ns : List Int, Rps K H fz (ns.map V.int) (ns.map .int)
  | [] => .nil
  | n :: ns => .cons (.int n) (rps_ints ns)
theorem law_facts {P : Program} {w : World} {K : PySem.W.Frag} {h : Heap} {mg : Str → Option Value} {pr : Prg} {tb : List FD} {k i : Nat} {d : DE} {fa : Addr} {x y : Str} {n : Nat} (KX : K.In h) (G : h.Ns mainGlobals mg) (hfa : mg x = some (.ref fa)) (c : He.SaysD pr.fa pr.fn K) (ck : Paired (ChkD pr) pr.ds tb) (hc : pr.cats.length ≤ pr.exs.length)
    (hd : pr.ds[i]? = some d) (hx : d.d.name = x) (hy : d.ps = [y]) (hn : n ≤ sizeLine) (hlaw : ∀ ns : List Int, ns.length ≤ n → ∃ st, calls tb k i [.d (.list (ns.map .int))] [] = .ok (.d (.bool true)) st) :
    ∃ (K : PySem.W.Frag) (fd : FuncData) (sp : Sp), K.In h ∧ (∀ (s : Shared) (u : Value), BindsTo s fd ⟨[u], []⟩ [(y, u)]) ∧
      (∀ (H : Hp) (a : Addr) (ns : List Int), ns.length ≤ n → Only H → SqL K H a (ns.map V.int) → sp [.ref a] H (fun v _ => v = .bl true) fun _ _ _ => False) ∧
      ∀ base : Heap, K.In base → base.Ns mainGlobals mg → FnOk P w K mg base (CXw P) k fa fd [y] sp := by
  obtain ⟨fd, F, m, kp, b, _, ba, oc, od, osl, lk⟩ := prog_ok (P := P) (w := w) (tb := tb) KX G c ck hc h k i d hd
  rw [hx] at m
  have ef : fa = He.ga K d.d.name := by
    rw [hx]
    rw [hfa] at m
    cases m
    rfl
  subst ef
  refine ⟨K, fd, spF K (clOf K pr.exs) (calls tb k) i d.ps.length, KX, fun s u => by
    have := ba s [u] (by rw [hy]; rfl)
    rw [hy] at this
    exact this, fun H a ns hl _ hS => ?_, fun base KB GB => ?_⟩
  · refine ⟨by rw [hy]; rfl, [], fun b => b = a ∧ Rd H a (.lst (ns.map V.int)), H, fun b => b = a ∧ Rd H a (.lst (ns.map V.int)), [], [.d (.list (ns.map .int))], Go.refl, ⟨List.nodup_nil, .nil, fun _ m => (by cases m), fun b ⟨e, z⟩ => ⟨ns.map V.int, by rw [e]; exact z⟩⟩, ⟨.cons (Rp.lst (xs := ns.map V.int) ?_ ?_ ?_) .nil, fun _ m => (by cases m), List.nodup_nil⟩, ?_⟩
    · rcases hS with h | h
      · exact .inl ⟨⟨rfl, h⟩, h⟩
      · exact .inr h
    · rw [List.length_map]
      exact Nat.le_trans hl hn
    · exact rps_ints ns
    · obtain ⟨st, e⟩ := hlaw ns hl
      rw [e]
      intro v H' fz' g ok rr fr
      exact rp_bool rr
  · obtain ⟨fd', F', _, _, _, _, _, oc', od', osl', lk'⟩ := prog_ok (P := P) (w := w) (tb := tb) KX G c ck hc base k i d hd
    have e : fd' = fd := by
      rw [lk] at lk'
      cases lk'
      rfl
    subst e
    rw [← hy]
    exact FnOk.cxw F'
end Ev

namespace Hd
open PySem
/-- is_row -/
def f0 : Ev.FD := ⟨2, 2, (.cons (.ret (.andE (.prim (.isa [.tuple]) (.cons (.var 0) .nil)) (.cmp .eq (.prim .len (.cons (.var 0) .nil)) (.var 1)))) .nil)⟩
/-- is_word -/
def f1 : Ev.FD := ⟨1, 2, (.cons (.ret (.andE (.prim (.isa [.str]) (.cons (.var 0) .nil)) (.andE (.chain .le .le (.dat (.int 1)) (.prim .len (.cons (.var 0) .nil)) (.dat (.int 8))) (.prim .all (.cons (.comp (.cmp .isin (.var 1) (.dat (.str "abcdefghijklmnopqrstuvwxyz"))) (.name 1) (.of (.var 0)) .no [1]) .nil))))) .nil)⟩
/-- is_variable_name -/
def f2 : Ev.FD := ⟨1, 2, (.cons (.ite (.orE (.notE (.prim (.isa [.str]) (.cons (.var 0) .nil))) (.notE (.chain .le .le (.dat (.int 1)) (.prim .len (.cons (.var 0) .nil)) (.dat (.int 4))))) (.cons (.ret (.dat (.bool false))) .nil) .nil) (.cons (.ret (.andE (.cmp .isin (.prim .idx (.cons (.var 0) (.cons (.dat (.int 0)) .nil))) (.dat (.str "ABCDEFGHIJKLMNOPQRSTUVWXYZ"))) (.prim .all (.cons (.comp (.cmp .isin (.var 1) (.dat (.str "0123456789"))) (.name 1) (.of (.slc (.var 0) (.yes (.dat (.int 1))) .no)) .no [1]) .nil)))) .nil))⟩
/-- ascends -/
def f3 : Ev.FD := ⟨1, 3, (.cons (.ret (.prim .all (.cons (.comp (.cmp .lt (.var 1) (.var 2)) (.tup [1, 2]) (.zip (.var 0) (.slc (.var 0) (.yes (.dat (.int 1))) .no)) .no [1, 2]) .nil))) .nil)⟩
/-- row_of -/
def f4 : Ev.FD := ⟨2, 3, (.cons (.for (.name 2) (.of (.var 0)) (.cons (.ite (.cmp .eq (.prim .idx (.cons (.var 2) (.cons (.dat (.int 0)) .nil))) (.var 1)) (.cons (.ret (.var 2)) .nil) .nil) .nil)) (.cons (.ret (.dat .none)) .nil))⟩
/-- sorts_of -/
def f5 : Ev.FD := ⟨1, 3, (.cons (.ret (.prim .tuple (.cons (.prim .sortset (.cons (.comp2 (.var 2) (.name 1) (.of (.var 0)) .no (.name 2) (.of (.prim .add (.cons (.prim .idx (.cons (.var 1) (.cons (.dat (.int 1)) .nil))) (.cons (.slc (.var 1) (.yes (.dat (.int 2))) .no) .nil)))) .no [1, 2] [2]) .nil)) .nil))) .nil)⟩
/-- size_of -/
def f6 : Ev.FD := ⟨1, 2, (.cons (.ret (.ite (.cmp .eq (.prim .idx (.cons (.var 0) (.cons (.dat (.int 0)) .nil))) (.dat (.str "var"))) (.dat (.int 1)) (.prim .add (.cons (.dat (.int 1)) (.cons (.prim .sum (.cons (.comp (.call 6 (.cons (.var 1) .nil)) (.name 1) (.of (.prim .idx (.cons (.var 0) (.cons (.dat (.int 2)) .nil)))) .no [1]) .nil)) .nil))))) .nil)⟩
/-- least_terms -/
def f7 : Ev.FD := ⟨1, 9, (.cons (.par [1, 2] (.cons .dnew (.cons (.dat (.bool true)) .nil))) (.cons (.while (.var 2) (.cons (.asg 2 (.dat (.bool false))) (.cons (.for (.tup [3, 4, 5]) (.of (.var 0)) (.cons (.ite (.prim .all (.cons (.comp (.cmp .isin (.var 6) (.var 1)) (.name 6) (.of (.var 4)) .no [6]) .nil)) (.cons (.asg 7 (.tup (.cons (.dat (.str "app")) (.cons (.var 3) (.cons (.prim .tuple (.cons (.comp (.prim .idx (.cons (.prim .idx (.cons (.var 1) (.cons (.var 6) .nil))) (.cons (.dat (.int 1)) .nil))) (.name 6) (.of (.var 4)) .no [6]) .nil)) .nil))))) (.cons (.asg 8 (.tup (.cons (.call 6 (.cons (.var 7) .nil)) (.cons (.var 7) .nil)))) (.cons (.ite (.orE (.cmp .notin (.var 5) (.var 1)) (.cmp .lt (.var 8) (.prim .idx (.cons (.var 1) (.cons (.var 5) .nil))))) (.cons (.sub (.var 1) (.var 5) (.var 8)) (.cons (.asg 2 (.dat (.bool true))) .nil)) .nil) .nil))) .nil) .nil)) .nil))) (.cons (.ret (.var 1)) .nil)))⟩
/-- is_signature_row -/
def f8 : Ev.FD := ⟨1, 2, (.cons (.ite (.orE (.notE (.call 0 (.cons (.var 0) (.cons (.dat (.int 3)) .nil)))) (.orE (.notE (.call 1 (.cons (.prim .idx (.cons (.var 0) (.cons (.dat (.int 0)) .nil))) .nil))) (.orE (.notE (.call 1 (.cons (.prim .idx (.cons (.var 0) (.cons (.dat (.int 2)) .nil))) .nil))) (.notE (.prim (.isa [.tuple]) (.cons (.prim .idx (.cons (.var 0) (.cons (.dat (.int 1)) .nil))) .nil)))))) (.cons (.ret (.dat (.bool false))) .nil) .nil) (.cons (.ret (.prim .all (.cons (.comp (.call 1 (.cons (.var 1) .nil)) (.name 1) (.of (.prim .idx (.cons (.var 0) (.cons (.dat (.int 1)) .nil)))) .no [1]) .nil))) .nil))⟩
/-- fits_signature -/
def f9 : Ev.FD := ⟨1, 4, (.cons (.ite (.orE (.notE (.prim (.isa [.tuple]) (.cons (.var 0) .nil))) (.notE (.prim .all (.cons (.comp (.call 8 (.cons (.var 1) .nil)) (.name 1) (.of (.var 0)) .no [1]) .nil)))) (.cons (.ret (.dat (.bool false))) .nil) .nil) (.cons (.ite (.notE (.call 3 (.cons (.comp (.prim .idx (.cons (.var 1) (.cons (.dat (.int 0)) .nil))) (.name 1) (.of (.var 0)) .no [1]) .nil))) (.cons (.ret (.dat (.bool false))) .nil) .nil) (.cons (.asg 2 (.call 7 (.cons (.var 0) .nil))) (.cons (.ret (.prim .all (.cons (.comp (.cmp .isin (.var 3) (.var 2)) (.name 3) (.of (.call 5 (.cons (.var 0) .nil))) .no [3]) .nil))) .nil))))⟩
/-- is_variable -/
def f10 : Ev.FD := ⟨2, 2, (.cons (.ite (.orE (.notE (.call 0 (.cons (.var 1) (.cons (.dat (.int 3)) .nil)))) (.orE (.notE (.prim (.isa [.str]) (.cons (.prim .idx (.cons (.var 1) (.cons (.dat (.int 0)) .nil))) .nil))) (.orE (.cmp .ne (.prim .idx (.cons (.var 1) (.cons (.dat (.int 0)) .nil))) (.dat (.str "var"))) (.notE (.call 2 (.cons (.prim .idx (.cons (.var 1) (.cons (.dat (.int 1)) .nil))) .nil)))))) (.cons (.ret (.dat (.bool false))) .nil) .nil) (.cons (.ret (.andE (.prim (.isa [.str]) (.cons (.prim .idx (.cons (.var 1) (.cons (.dat (.int 2)) .nil))) .nil)) (.cmp .isin (.prim .idx (.cons (.var 1) (.cons (.dat (.int 2)) .nil))) (.call 5 (.cons (.var 0) .nil))))) .nil))⟩
/-- sort_in -/
def f11 : Ev.FD := ⟨2, 5, (.cons (.ite (.orE (.notE (.call 0 (.cons (.var 1) (.cons (.dat (.int 3)) .nil)))) (.notE (.prim (.isa [.str]) (.cons (.prim .idx (.cons (.var 1) (.cons (.dat (.int 0)) .nil))) .nil)))) (.cons (.ret (.dat .none)) .nil) .nil) (.cons (.ite (.cmp .eq (.prim .idx (.cons (.var 1) (.cons (.dat (.int 0)) .nil))) (.dat (.str "var"))) (.cons (.ret (.ite (.call 10 (.cons (.var 0) (.cons (.var 1) .nil))) (.prim .idx (.cons (.var 1) (.cons (.dat (.int 2)) .nil))) (.dat .none))) .nil) .nil) (.cons (.ite (.orE (.cmp .ne (.prim .idx (.cons (.var 1) (.cons (.dat (.int 0)) .nil))) (.dat (.str "app"))) (.orE (.notE (.prim (.isa [.str]) (.cons (.prim .idx (.cons (.var 1) (.cons (.dat (.int 1)) .nil))) .nil))) (.notE (.prim (.isa [.tuple]) (.cons (.prim .idx (.cons (.var 1) (.cons (.dat (.int 2)) .nil))) .nil))))) (.cons (.ret (.dat .none)) .nil) .nil) (.cons (.asg 2 (.call 4 (.cons (.var 0) (.cons (.prim .idx (.cons (.var 1) (.cons (.dat (.int 1)) .nil))) .nil)))) (.cons (.ite (.orE (.cmp .isN (.var 2) (.dat .none)) (.cmp .ne (.prim .len (.cons (.prim .idx (.cons (.var 2) (.cons (.dat (.int 1)) .nil))) .nil)) (.prim .len (.cons (.prim .idx (.cons (.var 1) (.cons (.dat (.int 2)) .nil))) .nil)))) (.cons (.ret (.dat .none)) .nil) .nil) (.cons (.ite (.notE (.prim .all (.cons (.comp (.cmp .eq (.call 11 (.cons (.var 0) (.cons (.var 3) .nil))) (.var 4)) (.tup [3, 4]) (.zip (.prim .idx (.cons (.var 1) (.cons (.dat (.int 2)) .nil))) (.prim .idx (.cons (.var 2) (.cons (.dat (.int 1)) .nil)))) .no [3, 4]) .nil))) (.cons (.ret (.dat .none)) .nil) .nil) (.cons (.ret (.prim .idx (.cons (.var 2) (.cons (.dat (.int 2)) .nil)))) .nil)))))))⟩
/-- put_in -/
def f12 : Ev.FD := ⟨2, 3, (.cons (.ite (.cmp .eq (.prim .idx (.cons (.var 0) (.cons (.dat (.int 0)) .nil))) (.dat (.str "var"))) (.cons (.ret (.get2 (.var 1) (.var 0) (.var 0))) .nil) .nil) (.cons (.ret (.tup (.cons (.dat (.str "app")) (.cons (.prim .idx (.cons (.var 0) (.cons (.dat (.int 1)) .nil))) (.cons (.prim .tuple (.cons (.comp (.call 12 (.cons (.var 2) (.cons (.var 1) .nil))) (.name 2) (.of (.prim .idx (.cons (.var 0) (.cons (.dat (.int 2)) .nil)))) .no [2]) .nil)) .nil))))) .nil))⟩
/-- fits_substitution -/
def f13 : Ev.FD := ⟨2, 5, (.cons (.ite (.orE (.notE (.prim (.isa [.tuple]) (.cons (.var 1) .nil))) (.notE (.prim .all (.cons (.comp (.call 0 (.cons (.var 2) (.cons (.dat (.int 2)) .nil))) (.name 2) (.of (.var 1)) .no [2]) .nil)))) (.cons (.ret (.dat (.bool false))) .nil) .nil) (.cons (.for (.tup [3, 4]) (.of (.var 1)) (.cons (.ite (.orE (.notE (.call 10 (.cons (.var 0) (.cons (.var 3) .nil)))) (.orE (.cmp .ne (.call 11 (.cons (.var 0) (.cons (.var 4) .nil))) (.prim .idx (.cons (.var 3) (.cons (.dat (.int 2)) .nil)))) (.cmp .eq (.var 4) (.var 3)))) (.cons (.ret (.dat (.bool false))) .nil) .nil) .nil)) (.cons (.ret (.call 3 (.cons (.comp (.prim .idx (.cons (.var 2) (.cons (.dat (.int 0)) .nil))) (.name 2) (.of (.var 1)) .no [2]) .nil))) .nil)))⟩
/-- told_by -/
def f14 : Ev.FD := ⟨1, 3, (.cons (.ret (.prim .tuple (.cons (.prim .sorted (.cons (.lock 0 (.comp (.tup (.cons (.var 1) (.cons (.var 2) .nil))) (.tup [1, 2]) (.ditems 0) (.yes (.cmp .ne (.var 2) (.var 1))) [1, 2])) .nil)) .nil))) .nil)⟩
/-- composed_of -/
def f15 : Ev.FD := ⟨2, 6, (.cons (.par [2, 3] (.cons (.prim .dictT (.cons (.var 0) .nil)) (.cons (.prim .dictT (.cons (.var 1) .nil)) .nil))) (.cons (.asg 4 .dnewT) (.cons (.lock 2 (.for (.name 5) (.dkeys 2) (.cons (.sub (.var 4) (.var 5) (.call 12 (.cons (.prim .idx (.cons (.var 2) (.cons (.var 5) .nil))) (.cons (.var 3) .nil)))) .nil))) (.cons (.lock 3 (.for (.name 5) (.dkeys 3) (.cons (.ite (.cmp .notin (.var 5) (.var 2)) (.cons (.sub (.var 4) (.var 5) (.prim .idx (.cons (.var 3) (.cons (.var 5) .nil)))) .nil) .nil) .nil))) (.cons (.ret (.call 14 (.cons (.var 4) .nil))) .nil)))))⟩
/-- check_signature -/
def f16 : Ev.FD := ⟨1, 1, (.cons (.ite (.notE (.call 9 (.cons (.var 0) .nil))) (.cons (.raise 0) .nil) .nil) .nil)⟩
/-- check_term -/
def f17 : Ev.FD := ⟨2, 2, (.cons (.expr (.call 16 (.cons (.var 0) .nil))) (.cons (.expr (.call 18 (.cons (.var 0) (.cons (.var 1) .nil)))) .nil))⟩
/-- check_next_term -/
def f18 : Ev.FD := ⟨2, 2, (.cons (.ite (.cmp .isN (.call 11 (.cons (.var 0) (.cons (.var 1) .nil))) (.dat .none)) (.cons (.raise 1) .nil) .nil) .nil)⟩
/-- check_substitution -/
def f19 : Ev.FD := ⟨2, 2, (.cons (.ite (.notE (.call 13 (.cons (.var 0) (.cons (.var 1) .nil)))) (.cons (.raise 2) .nil) .nil) .nil)⟩
/-- is_substitution -/
def f20 : Ev.FD := ⟨2, 2, (.cons (.expr (.call 16 (.cons (.var 0) .nil))) (.cons (.ret (.call 13 (.cons (.var 0) (.cons (.var 1) .nil)))) .nil))⟩
/-- applied -/
def f21 : Ev.FD := ⟨3, 3, (.cons (.expr (.call 17 (.cons (.var 0) (.cons (.var 1) .nil)))) (.cons (.expr (.call 19 (.cons (.var 0) (.cons (.var 2) .nil)))) (.cons (.ret (.call 12 (.cons (.var 1) (.cons (.prim .dictT (.cons (.var 2) .nil)) .nil)))) .nil)))⟩
/-- composed -/
def f22 : Ev.FD := ⟨3, 3, (.cons (.expr (.call 16 (.cons (.var 0) .nil))) (.cons (.expr (.call 19 (.cons (.var 0) (.cons (.var 1) .nil)))) (.cons (.expr (.call 19 (.cons (.var 0) (.cons (.var 2) .nil)))) (.cons (.ret (.call 15 (.cons (.var 1) (.cons (.var 2) .nil)))) .nil))))⟩
/-- _law_deck -/
def f23 : Ev.FD := ⟨1, 1, (.cons (.asg 0 (.prim .int (.cons (.var 0) .nil))) (.cons (.ret (.lst (.cons (.prim .max2 (.cons (.dat (.int 0)) (.cons (.prim .sub (.cons (.var 0) (.cons (.prim .pow (.cons (.dat (.int 10)) (.cons (.dat (.int 27)) .nil))) .nil))) .nil))) (.cons (.prim .mod (.cons (.prim .int (.cons (.prim .add (.cons (.prim .mul (.cons (.var 0) (.cons (.dat (.int 1442695041)) .nil))) (.cons (.dat (.int 77711)) .nil))) .nil)) (.cons (.dat (.int 2305843009213693951)) .nil))) (.cons (.dat (.int 0)) .nil))))) .nil))⟩
/-- _law_draw -/
def f24 : Ev.FD := ⟨2, 3, (.cons (.sub (.var 0) (.dat (.int 2)) (.prim .add (.cons (.prim .idx (.cons (.var 0) (.cons (.dat (.int 2)) .nil))) (.cons (.dat (.int 1)) .nil)))) (.cons (.ite (.cmp .gt (.prim .idx (.cons (.var 0) (.cons (.dat (.int 0)) .nil))) (.dat (.int 0))) (.cons (.asg 2 (.prim .mod (.cons (.prim .int (.cons (.prim .idx (.cons (.var 0) (.cons (.dat (.int 0)) .nil))) .nil)) (.cons (.var 1) .nil)))) (.cons (.sub (.var 0) (.dat (.int 0)) (.prim .fdiv (.cons (.prim .int (.cons (.prim .idx (.cons (.var 0) (.cons (.dat (.int 0)) .nil))) .nil)) (.cons (.var 1) .nil)))) (.cons (.ret (.var 2)) .nil))) .nil) (.cons (.sub (.var 0) (.dat (.int 1)) (.prim .mod (.cons (.prim .int (.cons (.prim .add (.cons (.prim .add (.cons (.prim .mul (.cons (.prim .idx (.cons (.var 0) (.cons (.dat (.int 1)) .nil))) (.cons (.dat (.int 3935559000)) .nil))) (.cons (.prim .mul (.cons (.prim .mul (.cons (.prim .idx (.cons (.var 0) (.cons (.dat (.int 2)) .nil))) (.cons (.prim .idx (.cons (.var 0) (.cons (.dat (.int 2)) .nil))) .nil))) (.cons (.dat (.int 10007)) .nil))) .nil))) (.cons (.dat (.int 58111)) .nil))) .nil)) (.cons (.dat (.int 2305843009213693951)) .nil)))) (.cons (.ret (.prim .mod (.cons (.prim .fdiv (.cons (.prim .int (.cons (.prim .idx (.cons (.var 0) (.cons (.dat (.int 1)) .nil))) .nil)) (.cons (.dat (.int 131072)) .nil))) (.cons (.var 1) .nil)))) .nil))))⟩
/-- _law_pick -/
def f25 : Ev.FD := ⟨2, 2, (.cons (.ret (.prim .idx (.cons (.var 1) (.cons (.call 24 (.cons (.var 0) (.cons (.prim .len (.cons (.var 1) .nil)) .nil))) .nil)))) .nil)⟩
/-- _law_some -/
def f26 : Ev.FD := ⟨3, 6, (.cons (.par [3, 4] (.cons (.prim .list (.cons (.var 1) .nil)) (.cons (.lst .nil) .nil))) (.cons (.for (.name 5) (.range1 (.prim .min2 (.cons (.prim .len (.cons (.var 3) .nil)) (.cons (.var 2) .nil)))) (.cons (.expr (.meth .append (.var 4) (.meth .pop (.var 3) (.call 24 (.cons (.var 0) (.cons (.prim .len (.cons (.var 3) .nil)) .nil)))))) .nil)) (.cons (.ret (.var 4)) .nil)))⟩
/-- _law_same -/
def f27 : Ev.FD := ⟨2, 3, (.cons (.ite (.prim (.isa [.tuple, .list]) (.cons (.var 1) .nil)) (.cons (.ite (.orE (.cmp .ne (.prim (.isa [.tuple]) (.cons (.var 1) .nil)) (.prim (.isa [.tuple]) (.cons (.var 0) .nil))) (.cmp .ne (.prim (.isa [.list]) (.cons (.var 1) .nil)) (.prim (.isa [.list]) (.cons (.var 0) .nil)))) (.cons (.ret (.dat (.bool false))) .nil) .nil) (.cons (.ret (.andE (.cmp .eq (.prim .len (.cons (.var 0) .nil)) (.prim .len (.cons (.var 1) .nil))) (.prim .all (.cons (.comp (.call 27 (.cons (.prim .idx (.cons (.var 0) (.cons (.var 2) .nil))) (.cons (.prim .idx (.cons (.var 1) (.cons (.var 2) .nil))) .nil))) (.name 2) (.range1 (.prim .len (.cons (.var 1) .nil))) .no [2]) .nil)))) .nil)) .nil) (.cons (.ite (.cmp .isN (.var 1) (.dat .none)) (.cons (.ret (.cmp .isN (.var 0) (.dat .none))) .nil) .nil) (.cons (.ite (.prim (.isa [.bool]) (.cons (.var 1) .nil)) (.cons (.ret (.andE (.prim (.isa [.bool]) (.cons (.var 0) .nil)) (.cmp .eq (.var 0) (.var 1)))) .nil) .nil) (.cons (.ite (.prim (.isa [.int]) (.cons (.var 1) .nil)) (.cons (.ret (.andE (.prim (.isa [.int]) (.cons (.var 0) .nil)) (.andE (.notE (.prim (.isa [.bool]) (.cons (.var 0) .nil))) (.cmp .eq (.var 0) (.var 1))))) .nil) .nil) (.cons (.ret (.andE (.prim (.isa [.str]) (.cons (.var 0) .nil)) (.cmp .eq (.var 0) (.var 1)))) .nil)))))⟩
/-- _law_word -/
def f28 : Ev.FD := ⟨2, 6, (.cons (.asg 2 (.dat (.str "abcdefghijklmnopqrstuvwxyz"))) (.cons (.asg 3 (.meth .join (.dat (.str "")) (.comp (.call 25 (.cons (.var 0) (.cons (.var 2) .nil))) (.name 4) (.range1 (.prim .add (.cons (.dat (.int 1)) (.cons (.call 24 (.cons (.var 0) (.cons (.call 25 (.cons (.var 0) (.cons (.lst (.cons (.dat (.int 1)) (.cons (.dat (.int 2)) (.cons (.dat (.int 8)) .nil)))) .nil))) .nil))) .nil)))) .no [4]))) (.cons (.ite (.andE (.cmp .ne (.var 1) (.lst .nil)) (.cmp .eq (.call 24 (.cons (.var 0) (.cons (.dat (.int 3)) .nil))) (.dat (.int 0)))) (.cons (.asg 3 (.prim .add (.cons (.slc (.call 25 (.cons (.var 0) (.cons (.var 1) .nil))) .no (.yes (.dat (.int 7)))) (.cons (.call 25 (.cons (.var 0) (.cons (.var 2) .nil))) .nil)))) .nil) .nil) (.cons (.for (.name 5) (.of (.var 2)) (.cons (.ite (.cmp .isin (.var 3) (.var 1)) (.cons (.asg 3 (.prim .add (.cons (.prim .add (.cons (.call 25 (.cons (.var 0) (.cons (.var 2) .nil))) (.cons (.var 5) .nil))) (.cons (.dat (.str "q")) .nil)))) .nil) .nil) .nil)) (.cons (.for (.name 5) (.of (.lst (.cons (.dat (.str "qa")) (.cons (.dat (.str "qb")) (.cons (.dat (.str "qc")) (.cons (.dat (.str "qd")) (.cons (.dat (.str "qe")) (.cons (.dat (.str "qf")) (.cons (.dat (.str "qg")) (.cons (.dat (.str "qh")) (.cons (.dat (.str "qi")) (.cons (.dat (.str "qj")) (.cons (.dat (.str "qk")) (.cons (.dat (.str "ql")) (.cons (.dat (.str "qm")) (.cons (.dat (.str "qn")) .nil)))))))))))))))) (.cons (.ite (.cmp .isin (.var 3) (.var 1)) (.cons (.asg 3 (.var 5)) .nil) .nil) .nil)) (.cons (.ret (.var 3)) .nil))))))⟩
/-- _law_signature -/
def f29 : Ev.FD := ⟨3, 10, (.cons (.par [3, 4, 5] (.cons (.lst .nil) (.cons (.lst .nil) (.cons (.lst .nil) .nil)))) (.cons (.for (.name 6) (.range1 (.prim .add (.cons (.dat (.int 1)) (.cons (.call 24 (.cons (.var 0) (.cons (.var 1) .nil))) .nil)))) (.cons (.expr (.meth .append (.var 3) (.call 28 (.cons (.var 0) (.cons (.var 3) .nil))))) .nil)) (.cons (.for (.name 7) (.of (.var 3)) (.cons (.expr (.meth .append (.var 4) (.call 28 (.cons (.var 0) (.cons (.var 4) .nil))))) (.cons (.expr (.meth .append (.var 5) (.tup (.cons (.prim .idx (.cons (.var 4) (.cons (.prim .neg (.cons (.dat (.int 1)) .nil)) .nil))) (.cons (.tup .nil) (.cons (.var 7) .nil)))))) (.cons (.expr (.meth .append (.var 4) (.call 28 (.cons (.var 0) (.cons (.var 4) .nil))))) (.cons (.asg 8 (.prim .tuple (.cons (.comp (.call 25 (.cons (.var 0) (.cons (.var 3) .nil))) (.name 9) (.range1 (.prim .add (.cons (.dat (.int 1)) (.cons (.call 24 (.cons (.var 0) (.cons (.dat (.int 2)) .nil))) .nil)))) .no [9]) .nil))) (.cons (.expr (.meth .append (.var 5) (.tup (.cons (.prim .idx (.cons (.var 4) (.cons (.prim .neg (.cons (.dat (.int 1)) .nil)) .nil))) (.cons (.var 8) (.cons (.var 7) .nil)))))) .nil)))))) (.cons (.for (.name 6) (.range1 (.call 24 (.cons (.var 0) (.cons (.var 2) .nil)))) (.cons (.expr (.meth .append (.var 4) (.call 28 (.cons (.var 0) (.cons (.var 4) .nil))))) (.cons (.asg 8 (.prim .tuple (.cons (.comp (.call 25 (.cons (.var 0) (.cons (.var 3) .nil))) (.name 9) (.range1 (.call 25 (.cons (.var 0) (.cons (.lst (.cons (.dat (.int 0)) (.cons (.dat (.int 1)) (.cons (.dat (.int 2)) (.cons (.dat (.int 2)) (.cons (.dat (.int 3)) .nil)))))) .nil)))) .no [9]) .nil))) (.cons (.expr (.meth .append (.var 5) (.tup (.cons (.prim .idx (.cons (.var 4) (.cons (.prim .neg (.cons (.dat (.int 1)) .nil)) .nil))) (.cons (.var 8) (.cons (.call 25 (.cons (.var 0) (.cons (.var 3) .nil))) .nil)))))) .nil)))) (.cons (.ret (.prim .tuple (.cons (.prim .sorted (.cons (.var 5) .nil)) .nil))) .nil)))))⟩
/-- _law_sorts -/
def f30 : Ev.FD := ⟨1, 2, (.cons (.ret (.prim .sortset (.cons (.comp (.prim .idx (.cons (.var 1) (.cons (.dat (.int 2)) .nil))) (.name 1) (.of (.var 0)) .no [1]) .nil))) .nil)⟩
/-- _law_variables -/
def f31 : Ev.FD := ⟨3, 5, (.cons (.asg 3 (.call 30 (.cons (.var 1) .nil))) (.cons (.ret (.comp (.tup (.cons (.dat (.str "var")) (.cons (.var 4) (.cons (.call 25 (.cons (.var 0) (.cons (.var 3) .nil))) .nil)))) (.name 4) (.of (.call 26 (.cons (.var 0) (.cons (.lst (.cons (.dat (.str "X")) (.cons (.dat (.str "Y")) (.cons (.dat (.str "Z")) (.cons (.dat (.str "A")) (.cons (.dat (.str "B7")) (.cons (.dat (.str "V0")) (.cons (.dat (.str "V1")) (.cons (.dat (.str "W999")) .nil))))))))) (.cons (.var 2) .nil))))) .no [4])) .nil))⟩
/-- _law_term -/
def f32 : Ev.FD := ⟨5, 12, (.cons (.sub (.var 3) (.dat (.int 0)) (.prim .sub (.cons (.prim .idx (.cons (.var 3) (.cons (.dat (.int 0)) .nil))) (.cons (.dat (.int 1)) .nil)))) (.cons (.asg 5 (.comp (.var 6) (.name 6) (.of (.var 4)) (.yes (.cmp .eq (.prim .idx (.cons (.var 6) (.cons (.dat (.int 2)) .nil))) (.var 2))) [6])) (.cons (.ite (.andE (.cmp .ne (.var 5) (.lst .nil)) (.cmp .eq (.call 24 (.cons (.var 0) (.cons (.dat (.int 4)) .nil))) (.dat (.int 0)))) (.cons (.ret (.call 25 (.cons (.var 0) (.cons (.var 5) .nil)))) .nil) .nil) (.cons (.asg 7 (.comp (.var 8) (.name 8) (.of (.var 1)) (.yes (.andE (.cmp .eq (.prim .idx (.cons (.var 8) (.cons (.dat (.int 2)) .nil))) (.var 2)) (.cmp .le (.prim .len (.cons (.prim .idx (.cons (.var 8) (.cons (.dat (.int 1)) .nil))) .nil)) (.prim .max2 (.cons (.dat (.int 0)) (.cons (.prim .idx (.cons (.var 3) (.cons (.dat (.int 0)) .nil))) .nil)))))) [8])) (.cons (.asg 9 (.comp (.var 8) (.name 8) (.of (.var 7)) (.yes (.cmp .ne (.prim .idx (.cons (.var 8) (.cons (.dat (.int 1)) .nil))) (.tup .nil))) [8])) (.cons (.ite (.andE (.cmp .eq (.var 9) (.lst .nil)) (.andE (.cmp .ne (.var 5) (.lst .nil)) (.cmp .eq (.call 24 (.cons (.var 0) (.cons (.dat (.int 2)) .nil))) (.dat (.int 0))))) (.cons (.ret (.call 25 (.cons (.var 0) (.cons (.var 5) .nil)))) .nil) .nil) (.cons (.asg 8 (.call 25 (.cons (.var 0) (.cons (.ite (.andE (.cmp .ne (.var 9) (.lst .nil)) (.cmp .gt (.call 24 (.cons (.var 0) (.cons (.dat (.int 6)) .nil))) (.dat (.int 0)))) (.var 9) (.var 7)) .nil)))) (.cons (.sub (.var 3) (.dat (.int 0)) (.prim .sub (.cons (.prim .idx (.cons (.var 3) (.cons (.dat (.int 0)) .nil))) (.cons (.prim .len (.cons (.prim .idx (.cons (.var 8) (.cons (.dat (.int 1)) .nil))) .nil)) .nil)))) (.cons (.asg 10 (.lst .nil)) (.cons (.for (.name 11) (.of (.prim .idx (.cons (.var 8) (.cons (.dat (.int 1)) .nil)))) (.cons (.sub (.var 3) (.dat (.int 0)) (.prim .add (.cons (.prim .idx (.cons (.var 3) (.cons (.dat (.int 0)) .nil))) (.cons (.dat (.int 1)) .nil)))) (.cons (.expr (.meth .append (.var 10) (.call 32 (.cons (.var 0) (.cons (.var 1) (.cons (.var 11) (.cons (.var 3) (.cons (.var 4) .nil)))))))) .nil))) (.cons (.ret (.tup (.cons (.dat (.str "app")) (.cons (.prim .idx (.cons (.var 8) (.cons (.dat (.int 0)) .nil))) (.cons (.prim .tuple (.cons (.var 10) .nil)) .nil))))) .nil)))))))))))⟩
/-- _law_put -/
def f33 : Ev.FD := ⟨2, 3, (.cons (.ite (.cmp .eq (.prim .idx (.cons (.var 0) (.cons (.dat (.int 0)) .nil))) (.dat (.str "var"))) (.cons (.ret (.get2 (.var 1) (.var 0) (.var 0))) .nil) .nil) (.cons (.ret (.tup (.cons (.dat (.str "app")) (.cons (.prim .idx (.cons (.var 0) (.cons (.dat (.int 1)) .nil))) (.cons (.prim .tuple (.cons (.comp (.call 33 (.cons (.var 2) (.cons (.var 1) .nil))) (.name 2) (.of (.prim .idx (.cons (.var 0) (.cons (.dat (.int 2)) .nil)))) .no [2]) .nil)) .nil))))) .nil))⟩
/-- _law_told -/
def f34 : Ev.FD := ⟨1, 2, (.cons (.ret (.prim .tuple (.cons (.prim .sorted (.cons (.lock 0 (.comp (.tup (.cons (.var 1) (.cons (.prim .idx (.cons (.var 0) (.cons (.var 1) .nil))) .nil))) (.name 1) (.dkeys 0) (.yes (.cmp .ne (.prim .idx (.cons (.var 0) (.cons (.var 1) .nil))) (.var 1))) [1])) .nil)) .nil))) .nil)⟩
/-- _law_is_name -/
def f35 : Ev.FD := ⟨1, 2, (.cons (.ite (.orE (.notE (.prim (.isa [.str]) (.cons (.var 0) .nil))) (.notE (.chain .lt .lt (.dat (.int 0)) (.prim .len (.cons (.var 0) .nil)) (.dat (.int 5))))) (.cons (.ret (.dat (.bool false))) .nil) .nil) (.cons (.ret (.andE (.cmp .isin (.prim .idx (.cons (.var 0) (.cons (.dat (.int 0)) .nil))) (.dat (.str "ABCDEFGHIJKLMNOPQRSTUVWXYZ"))) (.prim .all (.cons (.comp (.cmp .isin (.var 1) (.dat (.str "0123456789"))) (.name 1) (.of (.slc (.var 0) (.yes (.dat (.int 1))) .no)) .no [1]) .nil)))) .nil))⟩
/-- _law_sort_in -/
def f36 : Ev.FD := ⟨2, 6, (.cons (.ite (.orE (.notE (.prim (.isa [.tuple]) (.cons (.var 1) .nil))) (.orE (.cmp .ne (.prim .len (.cons (.var 1) .nil)) (.dat (.int 3))) (.orE (.notE (.prim (.isa [.str]) (.cons (.prim .idx (.cons (.var 1) (.cons (.dat (.int 0)) .nil))) .nil))) (.notE (.prim (.isa [.str]) (.cons (.prim .idx (.cons (.var 1) (.cons (.dat (.int 1)) .nil))) .nil)))))) (.cons (.ret (.dat .none)) .nil) .nil) (.cons (.ite (.cmp .eq (.prim .idx (.cons (.var 1) (.cons (.dat (.int 0)) .nil))) (.dat (.str "var"))) (.cons (.asg 2 (.andE (.call 35 (.cons (.prim .idx (.cons (.var 1) (.cons (.dat (.int 1)) .nil))) .nil)) (.andE (.prim (.isa [.str]) (.cons (.prim .idx (.cons (.var 1) (.cons (.dat (.int 2)) .nil))) .nil)) (.cmp .isin (.prim .idx (.cons (.var 1) (.cons (.dat (.int 2)) .nil))) (.call 30 (.cons (.var 0) .nil)))))) (.cons (.ret (.ite (.var 2) (.prim .idx (.cons (.var 1) (.cons (.dat (.int 2)) .nil))) (.dat .none))) .nil)) .nil) (.cons (.asg 3 (.comp (.var 4) (.name 4) (.of (.var 0)) (.yes (.cmp .eq (.prim .idx (.cons (.var 4) (.cons (.dat (.int 0)) .nil))) (.prim .idx (.cons (.var 1) (.cons (.dat (.int 1)) .nil))))) [4])) (.cons (.ite (.orE (.cmp .ne (.prim .idx (.cons (.var 1) (.cons (.dat (.int 0)) .nil))) (.dat (.str "app"))) (.orE (.notE (.prim (.isa [.tuple]) (.cons (.prim .idx (.cons (.var 1) (.cons (.dat (.int 2)) .nil))) .nil))) (.orE (.cmp .eq (.var 3) (.lst .nil)) (.cmp .ne (.prim .len (.cons (.prim .idx (.cons (.prim .idx (.cons (.var 3) (.cons (.dat (.int 0)) .nil))) (.cons (.dat (.int 1)) .nil))) .nil)) (.prim .len (.cons (.prim .idx (.cons (.var 1) (.cons (.dat (.int 2)) .nil))) .nil)))))) (.cons (.ret (.dat .none)) .nil) .nil) (.cons (.ite (.cmp .ne (.comp (.call 36 (.cons (.var 0) (.cons (.var 5) .nil))) (.name 5) (.of (.prim .idx (.cons (.var 1) (.cons (.dat (.int 2)) .nil)))) .no [5]) (.prim .list (.cons (.prim .idx (.cons (.prim .idx (.cons (.var 3) (.cons (.dat (.int 0)) .nil))) (.cons (.dat (.int 1)) .nil))) .nil))) (.cons (.ret (.dat .none)) .nil) .nil) (.cons (.ret (.prim .idx (.cons (.prim .idx (.cons (.var 3) (.cons (.dat (.int 0)) .nil))) (.cons (.dat (.int 2)) .nil)))) .nil))))))⟩
/-- _law_bent -/
def f37 : Ev.FD := ⟨3, 5, (.cons (.ite (.orE (.notE (.prim (.isa [.tuple]) (.cons (.var 1) .nil))) (.orE (.cmp .eq (.var 1) (.tup .nil)) (.cmp .eq (.call 24 (.cons (.var 0) (.cons (.dat (.int 5)) .nil))) (.dat (.int 0))))) (.cons (.ret (.call 25 (.cons (.var 0) (.cons (.var 2) .nil)))) .nil) .nil) (.cons (.par [3, 4] (.cons (.call 24 (.cons (.var 0) (.cons (.prim .len (.cons (.var 1) .nil)) .nil))) (.cons (.call 24 (.cons (.var 0) (.cons (.dat (.int 7)) .nil))) .nil))) (.cons (.ite (.cmp .eq (.var 4) (.dat (.int 0))) (.cons (.ret (.prim .add (.cons (.slc (.var 1) .no (.yes (.var 3))) (.cons (.slc (.var 1) (.yes (.prim .add (.cons (.var 3) (.cons (.dat (.int 1)) .nil)))) .no) .nil)))) .nil) .nil) (.cons (.ite (.cmp .eq (.var 4) (.dat (.int 1))) (.cons (.ret (.prim .add (.cons (.prim .add (.cons (.slc (.var 1) .no (.yes (.var 3))) (.cons (.tup (.cons (.prim .idx (.cons (.var 1) (.cons (.var 3) .nil))) .nil)) .nil))) (.cons (.slc (.var 1) (.yes (.var 3)) .no) .nil)))) .nil) .nil) (.cons (.ite (.andE (.cmp .eq (.var 4) (.dat (.int 2))) (.cmp .gt (.prim .len (.cons (.var 1) .nil)) (.dat (.int 1)))) (.cons (.ret (.prim .add (.cons (.slc (.var 1) (.yes (.var 3)) .no) (.cons (.slc (.var 1) .no (.yes (.var 3))) .nil)))) .nil) .nil) (.cons (.ite (.cmp .eq (.var 4) (.dat (.int 3))) (.cons (.ret (.prim .list (.cons (.var 1) .nil))) .nil) .nil) (.cons (.ret (.prim .add (.cons (.prim .add (.cons (.slc (.var 1) .no (.yes (.var 3))) (.cons (.tup (.cons (.call 37 (.cons (.var 0) (.cons (.prim .idx (.cons (.var 1) (.cons (.var 3) .nil))) (.cons (.var 2) .nil)))) .nil)) .nil))) (.cons (.slc (.var 1) (.yes (.prim .add (.cons (.var 3) (.cons (.dat (.int 1)) .nil)))) .no) .nil)))) .nil)))))))⟩
/-- _law_fits_told -/
def f38 : Ev.FD := ⟨2, 8, (.cons (.ite (.orE (.notE (.prim (.isa [.tuple]) (.cons (.var 1) .nil))) (.notE (.prim .all (.cons (.comp (.andE (.prim (.isa [.tuple]) (.cons (.var 2) .nil)) (.cmp .eq (.prim .len (.cons (.var 2) .nil)) (.dat (.int 2)))) (.name 2) (.of (.var 1)) .no [2]) .nil)))) (.cons (.ret (.dat (.bool false))) .nil) .nil) (.cons (.for (.tup [3, 4]) (.of (.var 1)) (.cons (.asg 5 (.call 36 (.cons (.var 0) (.cons (.var 3) .nil)))) (.cons (.ite (.orE (.cmp .isN (.var 5) (.dat .none)) (.orE (.cmp .ne (.prim .idx (.cons (.var 3) (.cons (.dat (.int 0)) .nil))) (.dat (.str "var"))) (.orE (.cmp .ne (.call 36 (.cons (.var 0) (.cons (.var 4) .nil))) (.var 5)) (.cmp .eq (.var 3) (.var 4))))) (.cons (.ret (.dat (.bool false))) .nil) .nil) .nil))) (.cons (.asg 6 (.comp (.prim .idx (.cons (.var 2) (.cons (.dat (.int 0)) .nil))) (.name 2) (.of (.var 1)) .no [2])) (.cons (.ret (.prim .all (.cons (.comp (.cmp .lt (.prim .idx (.cons (.var 6) (.cons (.var 7) .nil))) (.prim .idx (.cons (.var 6) (.cons (.prim .add (.cons (.var 7) (.cons (.dat (.int 1)) .nil))) .nil)))) (.name 7) (.range1 (.prim .sub (.cons (.prim .len (.cons (.var 6) .nil)) (.cons (.dat (.int 1)) .nil)))) .no [7]) .nil))) .nil))))⟩
/-- _law_words_of -/
def f39 : Ev.FD := ⟨4, 7, (.cons (.asg 4 (.lst .nil)) (.cons (.for (.name 5) (.range1 (.dat (.int 3))) (.cons (.asg 6 (.dat (.str "none"))) (.cons (.try 3 (.cons (.ite (.cmp .eq (.var 5) (.dat (.int 0))) (.cons (.expr (.call 20 (.cons (.var 0) (.cons (.var 2) .nil)))) .nil) (.cons (.expr (.ite (.cmp .eq (.var 5) (.dat (.int 1))) (.call 21 (.cons (.var 0) (.cons (.var 1) (.cons (.var 2) .nil)))) (.call 22 (.cons (.var 0) (.cons (.var 2) (.cons (.var 3) .nil)))))) .nil)) .nil) (.cons 0 [0] (.cons (.asg 6 (.dat (.str "signature"))) .nil) (.cons 1 [1] (.cons (.asg 6 (.dat (.str "term"))) .nil) (.cons 2 [2] (.cons (.asg 6 (.dat (.str "told"))) .nil) .nil)))) (.cons (.expr (.meth .append (.var 4) (.var 6))) .nil)))) (.cons (.ret (.var 4)) .nil)))⟩
/-- _law_drawn -/
def f40 : Ev.FD := ⟨3, 5, (.cons (.asg 3 .dnewT) (.cons (.for (.name 4) (.of (.call 26 (.cons (.var 0) (.cons (.var 2) (.cons (.call 24 (.cons (.var 0) (.cons (.dat (.int 6)) .nil))) .nil))))) (.cons (.sub (.var 3) (.var 4) (.call 32 (.cons (.var 0) (.cons (.var 1) (.cons (.prim .idx (.cons (.var 4) (.cons (.dat (.int 2)) .nil))) (.cons (.lst (.cons (.prim .add (.cons (.dat (.int 1)) (.cons (.call 24 (.cons (.var 0) (.cons (.dat (.int 6)) .nil))) .nil))) .nil)) (.cons (.var 2) .nil))))))) .nil)) (.cons (.ret (.var 3)) .nil)))⟩
/-- law -/
def f41 : Ev.FD := ⟨1, 17, (.cons (.asg 1 (.lst (.cons (.dat .none) (.cons (.dat (.bool true)) (.cons (.dat (.int 0)) (.cons (.dat (.str "")) (.cons (.dat (.str "a")) (.cons (.tup .nil) (.cons (.lst .nil) (.cons (.tup (.cons (.dat (.str "var")) (.cons (.dat (.str "X")) (.cons (.dat (.str "a")) .nil)))) (.cons (.tup (.cons (.tup (.cons (.dat (.str "var")) (.cons (.dat (.str "X")) (.cons (.dat (.str "a")) .nil)))) (.cons (.tup (.cons (.dat (.str "var")) (.cons (.dat (.str "X")) (.cons (.dat (.str "a")) .nil)))) .nil))) (.cons (.tup (.cons (.dat (.str "app")) (.cons (.dat (.str "a")) (.cons (.tup .nil) .nil)))) .nil)))))))))))) (.cons (.for (.name 2) (.of (.slc (.prim .add (.cons (.lst (.cons (.dat (.int 7190013)) .nil)) (.cons (.var 0) .nil))) .no (.yes (.dat (.int 6))))) (.cons (.asg 3 (.call 23 (.cons (.var 2) .nil))) (.cons (.asg 4 (.call 29 (.cons (.var 3) (.cons (.dat (.int 2)) (.cons (.dat (.int 4)) .nil))))) (.cons (.asg 5 (.call 31 (.cons (.var 3) (.cons (.var 4) (.cons (.dat (.int 6)) .nil))))) (.cons (.par [6, 7] (.cons (.call 40 (.cons (.var 3) (.cons (.var 4) (.cons (.var 5) .nil)))) (.cons (.call 40 (.cons (.var 3) (.cons (.var 4) (.cons (.var 5) .nil)))) .nil))) (.cons (.par [8, 9] (.cons (.call 34 (.cons (.var 6) .nil)) (.cons (.call 34 (.cons (.var 7) .nil)) .nil))) (.cons (.ite (.notE (.call 27 (.cons (.lst (.cons (.call 20 (.cons (.var 4) (.cons (.var 8) .nil))) (.cons (.call 20 (.cons (.var 4) (.cons (.tup .nil) .nil))) .nil))) (.cons (.lst (.cons (.dat (.bool true)) (.cons (.dat (.bool true)) .nil))) .nil)))) (.cons (.ret (.dat (.bool false))) .nil) .nil) (.cons (.for (.name 10) (.range1 (.dat (.int 4))) (.cons (.asg 11 (.call 32 (.cons (.var 3) (.cons (.var 4) (.cons (.call 25 (.cons (.var 3) (.cons (.call 30 (.cons (.var 4) .nil)) .nil))) (.cons (.lst (.cons (.prim .add (.cons (.dat (.int 1)) (.cons (.call 24 (.cons (.var 3) (.cons (.dat (.int 12)) .nil))) .nil))) .nil)) (.cons (.var 5) .nil))))))) (.cons (.asg 12 (.call 33 (.cons (.var 11) (.cons (.var 6) .nil)))) (.cons (.ite (.orE (.notE (.call 27 (.cons (.call 21 (.cons (.var 4) (.cons (.var 11) (.cons (.var 8) .nil)))) (.cons (.var 12) .nil)))) (.notE (.call 27 (.cons (.call 21 (.cons (.var 4) (.cons (.var 11) (.cons (.call 22 (.cons (.var 4) (.cons (.var 8) (.cons (.var 9) .nil)))) .nil)))) (.cons (.call 33 (.cons (.var 12) (.cons (.var 7) .nil))) .nil))))) (.cons (.ret (.dat (.bool false))) .nil) .nil) (.cons (.ite (.notE (.call 27 (.cons (.call 21 (.cons (.var 4) (.cons (.var 11) (.cons (.tup .nil) .nil)))) (.cons (.var 11) .nil)))) (.cons (.ret (.dat (.bool false))) .nil) .nil) (.cons (.asg 13 (.call 37 (.cons (.var 3) (.cons (.var 8) (.cons (.var 1) .nil))))) (.cons (.asg 14 (.call 38 (.cons (.var 4) (.cons (.var 13) .nil)))) (.cons (.ite (.notE (.call 27 (.cons (.call 20 (.cons (.var 4) (.cons (.var 13) .nil))) (.cons (.var 14) .nil)))) (.cons (.ret (.dat (.bool false))) .nil) .nil) (.cons (.ite (.andE (.notE (.var 14)) (.cmp .ne (.call 39 (.cons (.var 4) (.cons (.var 11) (.cons (.var 13) (.cons (.dat .none) .nil))))) (.lst (.cons (.dat (.str "none")) (.cons (.dat (.str "told")) (.cons (.dat (.str "told")) .nil)))))) (.cons (.ret (.dat (.bool false))) .nil) .nil) (.cons (.ite (.andE (.notE (.var 14)) (.cmp .ne (.call 39 (.cons (.var 4) (.cons (.var 11) (.cons (.var 8) (.cons (.var 13) .nil))))) (.lst (.cons (.dat (.str "none")) (.cons (.dat (.str "none")) (.cons (.dat (.str "told")) .nil)))))) (.cons (.ret (.dat (.bool false))) .nil) .nil) .nil)))))))))) (.cons (.asg 15 .dnewT) (.cons (.for (.name 16) (.of (.var 5)) (.cons (.sub (.var 15) (.var 16) (.call 33 (.cons (.call 33 (.cons (.var 16) (.cons (.var 6) .nil))) (.cons (.var 7) .nil)))) .nil)) (.cons (.ite (.orE (.notE (.call 27 (.cons (.call 22 (.cons (.var 4) (.cons (.var 8) (.cons (.var 9) .nil)))) (.cons (.call 34 (.cons (.var 15) .nil)) .nil)))) (.notE (.call 27 (.cons (.lst (.cons (.call 22 (.cons (.var 4) (.cons (.var 8) (.cons (.tup .nil) .nil)))) (.cons (.call 22 (.cons (.var 4) (.cons (.tup .nil) (.cons (.var 9) .nil)))) .nil))) (.cons (.lst (.cons (.var 8) (.cons (.var 9) .nil))) .nil))))) (.cons (.ret (.dat (.bool false))) .nil) .nil) (.cons (.ite (.orE (.cmp .ne (.call 39 (.cons (.var 4) (.cons (.dat .none) (.cons (.var 8) (.cons (.var 9) .nil))))) (.lst (.cons (.dat (.str "none")) (.cons (.dat (.str "term")) (.cons (.dat (.str "none")) .nil))))) (.cmp .ne (.call 39 (.cons (.tup (.cons (.tup (.cons (.dat (.str "a")) (.cons (.tup .nil) (.cons (.dat (.str "a")) .nil)))) (.cons (.dat (.int 5)) .nil))) (.cons (.dat .none) (.cons (.dat .none) (.cons (.dat .none) .nil))))) (.prim .mul (.cons (.lst (.cons (.dat (.str "signature")) .nil)) (.cons (.dat (.int 3)) .nil))))) (.cons (.ret (.dat (.bool false))) .nil) .nil) .nil)))))))))))) (.cons (.ret (.dat (.bool true))) .nil)))⟩
def tb0 : List Ev.FD := [f0, f1, f2, f3, f4, f5, f6, f7, f8, f9, f10, f11, f12, f13, f14, f15, f16, f17, f18, f19, f20, f21, f22, f23, f24, f25, f26, f27, f28, f29]
def tb1 : List Ev.FD := [f30, f31, f32, f33, f34, f35, f36, f37, f38, f39, f40, f41]
def tb : List Ev.FD := tb0 ++ tb1
end Hd

/-! Pl1: what the evaluator answers: tools -/
namespace Pl
open PySem Ev PySem.Spec PyProof.Rows

/-! ### equations -/
/-- which branch -/
def brF (r : R) (x y : Fl) : Fl := match r with
  | .d (.bool true) => x
  | .d (.bool false) => y
  | _ => .err
@[simp] theorem brF_b (t : Bool) (x y : Fl) : brF (.d (.bool t)) x y = if t then x else y := by cases t <;> rfl
/-- what a for does with an item -/
noncomputable def forB (Φ : Calls) (tg : Tg) (body : Ss) : D → Envr → List Ob → Fl := fun x env st => match bindT tg x env with
      | some env' => exSs Φ body env' st
      | none => .err
theorem forB_eq {Φ : Calls} {tg : Tg} {body : Ss} {x : D} {env env' : Envr} {st : List Ob} (h : bindT tg x env = some env') : forB Φ tg body x env st = exSs Φ body env' st := by rw [forB, h]
section
variable (Φ : Calls) (env : Envr) (st : List Ob)
@[simp] theorem evE_var (i : Nat) : evE Φ (.var i) env st = match env[i]? with
    | some (some r) => .ok r st
    | _ => .err := by rw [evE] <;> rfl
@[simp] theorem evE_dat (d : D) : evE Φ (.dat d) env st = .ok (.d d) st := by rw [evE] <;> rfl
@[simp] theorem evE_tup (es : Es) : evE Φ (.tup es) env st = (evEs Φ es env st).bind fun rs st => match toDs rs with
    | some ds => .ok (.d (.tuple ds)) st
    | none => .err := by rw [evE] <;> rfl
@[simp] theorem evE_lst (es : Es) : evE Φ (.lst es) env st = (evEs Φ es env st).bind fun rs st => match toDs rs with
    | some ds => .ok (.f (.lst ds)) st
    | none => .err := by rw [evE] <;> rfl
@[simp] theorem evE_dnew : evE Φ .dnew env st = .ok (.f (.dic [])) st := by rw [evE] <;> rfl
@[simp] theorem evE_and (a b : E) : evE Φ (.andE a b) env st = tst (evE Φ a env st) fun t st => if t then evE Φ b env st else okB false st := by rw [evE] <;> rfl
@[simp] theorem evE_or (a b : E) : evE Φ (.orE a b) env st = tst (evE Φ a env st) fun t st => if t then okB true st else evE Φ b env st := by rw [evE] <;> rfl
@[simp] theorem evE_not (a : E) : evE Φ (.notE a) env st = tst (evE Φ a env st) fun t st => okB (!t) st := by rw [evE] <;> rfl
@[simp] theorem evE_cmpE (o : Cmp) (a b : E) : evE Φ (.cmp o a b) env st = (evE Φ a env st).bind fun x st => (evE Φ b env st).bind fun y st => cmpF o x y st := by rw [evE] <;> rfl
@[simp] theorem evE_chain (o o' : Cmp) (a b c : E) : evE Φ (.chain o o' a b c) env st = (evE Φ a env st).bind fun x st => (evE Φ b env st).bind fun y st => tst (cmpF o x y st) fun t st =>
      if t then (evE Φ c env st).bind fun z st => cmpF o' y z st else okB false st := by rw [evE] <;> rfl
@[simp] theorem evE_ite (c a b : E) : evE Φ (.ite c a b) env st = tst (evE Φ c env st) fun t st => if t then evE Φ a env st else evE Φ b env st := by rw [evE] <;> rfl
@[simp low] theorem evE_prim (p : Prim) (es : Es) : evE Φ (.prim p es) env st = (evEs Φ es env st).bind fun rs st => primF p rs st := by rw [evE] <;> rfl
@[simp] theorem evE_meth (p : Prim) (a b : E) : evE Φ (.meth p a b) env st = (evE Φ a env st).bind fun x st => if methOk p x st then (evE Φ b env st).bind fun y st => primF p [x, y] st else .err := by rw [evE] <;> rfl
@[simp] theorem evE_slc (a : E) (lo hi : Oe) : evE Φ (.slc a lo hi) env st = (evE Φ a env st).bind fun x st => (evO Φ lo env st).bind fun l st => (evO Φ hi env st).bind fun h st => slcF x l h st := by rw [evE] <;> rfl
@[simp] theorem evE_call (f : Nat) (es : Es) : evE Φ (.call f es) env st = (evEs Φ es env st).bind fun rs st => Φ f rs st := by rw [evE] <;> rfl
@[simp] theorem evEs_nil : evEs Φ .nil env st = .ok [] st := by rw [evEs] <;> rfl
@[simp] theorem evEs_cons (e : E) (es : Es) : evEs Φ (.cons e es) env st = (evE Φ e env st).bind fun r st => (evEs Φ es env st).bind fun rs st => .ok (r :: rs) st := by rw [evEs] <;> rfl
@[simp] theorem evO_no : evO Φ .no env st = .ok none st := by rw [evO] <;> rfl
@[simp] theorem evO_yes (e : E) : evO Φ (.yes e) env st = (evE Φ e env st).bind fun r st => match r with
    | .d (.int i) => .ok (some i) st
    | _ => .err := by rw [evO] <;> rfl
@[simp] theorem evC_no : evC Φ .no env st = .ok true st := by rw [evC] <;> rfl
@[simp] theorem evC_yes (e : E) : evC Φ (.yes e) env st = (evE Φ e env st).bind fun r st => match r with
    | .d (.bool b) => .ok b st
    | _ => .err := by rw [evC] <;> rfl
@[simp] theorem exSs_nil : exSs Φ .nil env st = .next env st := by rw [exSs] <;> rfl
@[simp] theorem exSs_cons (s : S) (ss : Ss) : exSs Φ (.cons s ss) env st = match exS Φ s env st with
    | .next env' st' => exSs Φ ss env' st'
    | r => r := by rw [exSs] <;> rfl
@[simp] theorem exS_asg (i : Nat) (e : E) : exS Φ (.asg i e) env st = (evE Φ e env st).fl env fun r st => .next (env.set i (some (alloc r st).1)) (alloc r st).2 := by rw [exS] <;> rfl
@[simp] theorem exS_par (is : List Nat) (es : Es) : exS Φ (.par is es) env st = (evEs Φ es env st).fl env fun rs st => match parSet is rs env st with
    | some (env', st') => .next env' st'
    | none => .err := by rw [exS] <;> rfl
@[simp] theorem exS_sub (o i v : E) : exS Φ (.sub o i v) env st = (evE Φ v env st).fl env fun x st => (evE Φ o env st).fl env fun y st => (evE Φ i env st).fl env fun z st => match subF y z x st with
    | some st' => .next env st'
    | none => .err := by rw [exS] <;> rfl
@[simp] theorem exS_expr (e : E) : exS Φ (.expr e) env st = (evE Φ e env st).fl env fun _ st => .next env st := by rw [exS] <;> rfl
@[simp] theorem exS_ret (e : E) : exS Φ (.ret e) env st = (evE Φ e env st).fl env fun r st => .ret r st := by rw [exS] <;> rfl
@[simp] theorem exS_ite (c : E) (a b : Ss) : exS Φ (.ite c a b) env st = (evE Φ c env st).fl env fun r st => brF r (exSs Φ a env st) (exSs Φ b env st) := by rw [exS] <;> rfl
@[simp] theorem exS_for (tg : Tg) (src : It) (body : Ss) : exS Φ (.for tg src body) env st = (evI Φ src env st).fl env fun p st => loopS (forB Φ tg body) p.2 p.1 env st := by rw [exS] <;> rfl
@[simp] theorem exS_raise (c : Nat) : exS Φ (.raise c) env st = .exc c env st := by rw [exS] <;> rfl
end
@[simp] theorem rs_ok {α β : Type} (a : α) (st : List Ob) (k : α → List Ob → Rs β) : (Rs.ok a st).bind k = k a st := rfl
@[simp] theorem bind_exc {α β : Type} (c : Nat) (st : List Ob) (k : α → List Ob → Rs β) : (Rs.exc c st).bind k = .exc c st := rfl
@[simp] theorem fl_ok {α : Type} (env : Envr) (a : α) (st : List Ob) (k : α → List Ob → Fl) : (Rs.ok a st).fl env k = k a st := rfl
@[simp] theorem fl_exc {α : Type} (env : Envr) (c : Nat) (st : List Ob) (k : α → List Ob → Fl) : (Rs.exc c st).fl env k = .exc c env st := rfl
@[simp] theorem tst_ok (b : Bool) (st : List Ob) (k : Bool → List Ob → Rs R) : tst (.ok (.d (.bool b)) st) k = k b st := rfl
@[simp] theorem okB_eq (b : Bool) (st : List Ob) : okB b st = .ok (.d (.bool b)) st := rfl
@[simp] theorem tst_exc (c : Nat) (st : List Ob) (k : Bool → List Ob → Rs R) : tst (.exc c st) k = .exc c st := rfl

@[simp] theorem ite_and (p : Prop) [Decidable p] (u : Bool) (st : List Ob) : (if p then Rs.ok (R.d (.bool u)) st else Rs.ok (R.d (.bool false)) st) = Rs.ok (.d (.bool (decide p && u))) st := by
  by_cases h : p <;> simp [h]
@[simp] theorem ite_or (p : Prop) [Decidable p] (u : Bool) (st : List Ob) : (if p then Rs.ok (R.d (.bool true)) st else Rs.ok (R.d (.bool u)) st) = Rs.ok (.d (.bool (decide p || u))) st := by
  by_cases h : p <;> simp [h]
/-! ### what holds of an answer -/
def _root_.Ev.Rs.sat {α : Type} (r : Rs α) (Q : α → List Ob → Prop) : Prop := ∃ a st, r = .ok a st ∧ Q a st
@[simp] theorem sat_ok {α : Type} (a : α) (st : List Ob) (Q : α → List Ob → Prop) : (Rs.ok a st).sat Q ↔ Q a st := ⟨fun ⟨_, _, e, h⟩ => by cases e; exact h, fun h => ⟨_, _, rfl, h⟩⟩
@[simp] theorem sat_bind {α β : Type} (r : Rs α) (k : α → List Ob → Rs β) (Q : β → List Ob → Prop) : (r.bind k).sat Q ↔ r.sat fun a st => (k a st).sat Q := by
  cases r with
  | ok a st => simp
  | exc c st => exact ⟨fun ⟨_, _, e, _⟩ => by simp at e, fun ⟨_, _, e, _⟩ => by simp at e⟩
  | err => exact ⟨fun ⟨_, _, e, _⟩ => (by cases e), fun ⟨_, _, e, _⟩ => (by cases e)⟩
theorem _root_.Ev.Rs.sat.mono {α : Type} {r : Rs α} {Q Q' : α → List Ob → Prop} (h : r.sat Q) (k : ∀ a st, Q a st → Q' a st) : r.sat Q' := by
  obtain ⟨a, st, e, q⟩ := h
  exact ⟨a, st, e, k a st q⟩
/-- a flow that goes on or hands back -/
def _root_.Ev.Fl.sat (f : Fl) (N : Envr → List Ob → Prop) (Q : R → List Ob → Prop) : Prop :=
  match f with
  | .next env st => N env st
  | .ret r st => Q r st
  | _ => False
@[simp] theorem fsat_next (env : Envr) (st : List Ob) (N : Envr → List Ob → Prop) (Q : R → List Ob → Prop) : (Fl.next env st).sat N Q ↔ N env st := Iff.rfl
@[simp] theorem fsat_ret (r : R) (st : List Ob) (N : Envr → List Ob → Prop) (Q : R → List Ob → Prop) : (Fl.ret r st).sat N Q ↔ Q r st := Iff.rfl
theorem fsat_fl {α : Type} {env : Envr} {r : Rs α} {k : α → List Ob → Fl} {N : Envr → List Ob → Prop} {Q : R → List Ob → Prop} (h : r.sat fun a st => (k a st).sat N Q) : (r.fl env k).sat N Q := by
  obtain ⟨a, st, e, q⟩ := h
  rw [e]
  exact q
theorem fsat_cons {Φ : Calls} {s : S} {ss : Ss} {env : Envr} {st : List Ob} {N : Envr → List Ob → Prop} {Q : R → List Ob → Prop} (h : (exS Φ s env st).sat (fun env' st' => (exSs Φ ss env' st').sat N Q) Q) : (exSs Φ (.cons s ss) env st).sat N Q := by
  rw [exSs_cons]
  cases e : exS Φ s env st with
  | next env' st' => rw [e] at h; exact h
  | ret r st' => rw [e] at h; exact h
  | brk _ _ => rw [e] at h; exact h
  | cont _ _ => rw [e] at h; exact h
  | exc _ _ _ => rw [e] at h; exact h
  | err => rw [e] at h; exact h
theorem _root_.Ev.Fl.sat.mono {f : Fl} {N N' : Envr → List Ob → Prop} {Q Q' : R → List Ob → Prop} (h : f.sat N Q) (k : ∀ env st, N env st → N' env st) (k' : ∀ r st, Q r st → Q' r st) : f.sat N' Q' := by
  cases f <;> first | exact k _ _ h | exact k' _ _ h | exact h

/-! ### defs -/
theorem calls_at {tb : List FD} {k f : Nat} {fd : FD} (hk : 0 < k) (h : tb[f]? = some fd) (rs : List R) (st : List Ob) : calls tb k f rs st = callF (calls tb (k - 1)) fd rs st := by
  obtain ⟨k, rfl⟩ : ∃ j, k = j + 1 := ⟨k - 1, by omega⟩
  rw [calls]
  show (match tb[f]? with
    | some fd => callF (calls tb k) fd rs st
    | none => .err) = _
  rw [h]
  rfl
/-- a def that hands back a datum, the store as it was -/
theorem callF_d {Φ : Calls} {fd : FD} {rs : List R} {st : List Ob} {v : D} (hl : rs.length = fd.np) (ha : (allocs rs st) = (rs, st)) (h : exSs Φ fd.body (startE fd rs) st = .ret (.d v) st) : callF Φ fd rs st = .ok (.d v) st := by
  rw [callF, if_pos hl, ha]
  show (match exSs Φ fd.body (startE fd rs) st with
    | .next _ st' => handB (.d .none) st' st.length st.length
    | .ret r st' => handB r st' st.length st.length
    | .exc c _ st' => .exc c (st'.take st.length)
    | _ => .err) = _
  rw [h]
  show Rs.ok (R.d v) (st.take st.length) = _
  rw [List.take_length]
/-- what a def hands back, its own objects forgotten -/
theorem callF_sat {Φ : Calls} {fd : FD} {rs : List R} {st : List Ob} {Q : R → List Ob → Prop} (hl : rs.length = fd.np)
    (h : (exSs Φ fd.body (startE fd (allocs rs st).1) (allocs rs st).2).sat (fun _ st' => (handB (.d .none) st' st.length (allocs rs st).2.length).sat Q) (fun r st' => (handB r st' st.length (allocs rs st).2.length).sat Q)) : (callF Φ fd rs st).sat Q := by
  rw [callF, if_pos hl]
  cases e : exSs Φ fd.body (startE fd (allocs rs st).1) (allocs rs st).2 with
  | next env' st' => rw [e] at h; exact h
  | ret r st' => rw [e] at h; exact h
  | brk _ _ => rw [e] at h; exact h.elim
  | cont _ _ => rw [e] at h; exact h.elim
  | exc _ _ _ => rw [e] at h; exact h.elim
  | err => rw [e] at h; exact h.elim
/-- a def with objects of its own; st2: what became of the store -/
theorem callF_x {Φ : Calls} {fd : FD} {rs rs' : List R} {st st2 ex ex' : List Ob} {v : D} {env : Envr} (hl : rs.length = fd.np) (ha : allocs rs st = (rs', st ++ ex)) (hv : startE fd rs' = env) (h2 : st2.length = st.length) (h : exSs Φ fd.body env (st ++ ex) = .ret (.d v) (st2 ++ ex')) : callF Φ fd rs st = .ok (.d v) st2 := by
  rw [callF, if_pos hl, ha]
  show (match exSs Φ fd.body (startE fd rs') (st ++ ex) with
    | .next _ st' => handB (.d .none) st' st.length (st ++ ex).length
    | .ret r st' => handB r st' st.length (st ++ ex).length
    | .exc c _ st' => .exc c (st'.take st.length)
    | _ => .err) = _
  rw [hv, h]
  show Rs.ok (R.d v) ((st2 ++ ex').take st.length) = _
  rw [← h2, List.take_left]
theorem callF_n {Φ : Calls} {fd : FD} {rs rs' : List R} {st st2 ex ex' : List Ob} {b : Ob} {env : Envr} (hl : rs.length = fd.np) (ha : allocs rs st = (rs', st ++ ex)) (hv : startE fd rs' = env) (h2 : st2.length = st.length) (h : exSs Φ fd.body env (st ++ ex) = .ret (.f b) (st2 ++ ex')) : callF Φ fd rs st = .ok (.f b) st2 := by
  rw [callF, if_pos hl, ha]
  show (match exSs Φ fd.body (startE fd rs') (st ++ ex) with
    | .next _ st' => handB (.d .none) st' st.length (st ++ ex).length
    | .ret r st' => handB r st' st.length (st ++ ex).length
    | .exc c _ st' => .exc c (st'.take st.length)
    | _ => .err) = _
  rw [hv, h]
  show Rs.ok (R.f b) ((st2 ++ ex').take st.length) = _
  rw [← h2, List.take_left]
theorem callF_o {Φ : Calls} {fd : FD} {rs rs' : List R} {st st2 ex ex' : List Ob} {b : Ob} {j : Nat} {env : Envr} (hl : rs.length = fd.np) (ha : allocs rs st = (rs', st ++ ex)) (hv : startE fd rs' = env) (h2 : st2.length = st.length) (hj : ex.length ≤ j) (hb : ex'[j]? = some b) (h : exSs Φ fd.body env (st ++ ex) = .ret (.o (st.length + j)) (st2 ++ ex')) : callF Φ fd rs st = .ok (.f b) st2 := by
  rw [callF, if_pos hl, ha]
  show (match exSs Φ fd.body (startE fd rs') (st ++ ex) with
    | .next _ st' => handB (.d .none) st' st.length (st ++ ex).length
    | .ret r st' => handB r st' st.length (st ++ ex).length
    | .exc c _ st' => .exc c (st'.take st.length)
    | _ => .err) = _
  rw [hv, h]
  show handB (R.o (st.length + j)) (st2 ++ ex') st.length (st ++ ex).length = _
  have e : (st2 ++ ex')[st.length + j]? = some b := by
    rw [← h2, List.getElem?_append_right (by omega)]
    simpa using hb
  rw [handB, if_neg (by omega), if_neg (by rw [List.length_append]; omega), e]
  show Rs.ok (R.f b) ((st2 ++ ex').take st.length) = _
  rw [← h2, List.take_left]
@[simp] theorem handB_d (x : D) (st : List Ob) (m n : Nat) : handB (.d x) st m n = .ok (.d x) (st.take m) := rfl
@[simp] theorem handB_f (b : Ob) (st : List Ob) (m n : Nat) : handB (.f b) st m n = .ok (.f b) (st.take m) := rfl
@[simp] theorem alloc_d (x : D) (st : List Ob) : alloc (.d x) st = (.d x, st) := rfl
@[simp] theorem alloc_o (i : Nat) (st : List Ob) : alloc (.o i) st = (.o i, st) := rfl
@[simp] theorem alloc_f (b : Ob) (st : List Ob) : alloc (.f b) st = (.o st.length, st ++ [b]) := rfl
@[simp] theorem allocs_nil (st : List Ob) : allocs [] st = ([], st) := rfl
@[simp] theorem allocs_d (x : D) (rs : List R) (st : List Ob) : allocs (.d x :: rs) st = (.d x :: (allocs rs st).1, (allocs rs st).2) := rfl
@[simp] theorem allocs_o (i : Nat) (rs : List R) (st : List Ob) : allocs (.o i :: rs) st = (.o i :: (allocs rs st).1, (allocs rs st).2) := rfl
@[simp] theorem allocs_f (b : Ob) (rs : List R) (st : List Ob) : allocs (.f b :: rs) st = (.o st.length :: (allocs rs (st ++ [b])).1, (allocs rs (st ++ [b])).2) := rfl

/-! ### items one by one -/
theorem same_none (st st' : List Ob) : same none st st' := fun _ h => by cases h
theorem same_rfl (g : Option Nat) (st : List Ob) : same g st st := fun _ _ => rfl
theorem compL_pure {α : Type} {f : D → List Ob → Rs (List D)} {g : Option Nat} {st : List Ob} {F : α → D} {h : α → List D} : ∀ {l : List α}, (∀ a ∈ l, f (F a) st = .ok (h a) st) → compL f g (l.map F) st = .ok (l.flatMap h) st
  | [], _ => by simp [compL]
  | a :: l, e => by
    rw [List.map_cons, compL, e a (by simp)]
    simp only [if_pos (same_rfl g st)]
    rw [compL_pure fun b hb => e b (by simp [hb])]
    simp
theorem compL_map {α : Type} {f : D → List Ob → Rs (List D)} {g : Option Nat} {st : List Ob} {F : α → D} {h : α → D} {l : List α} (e : ∀ a ∈ l, f (F a) st = .ok [h a] st) : compL f g (l.map F) st = .ok (l.map h) st := by
  rw [compL_pure (h := fun a => [h a]) e]
  congr 1
  clear e
  induction l with
  | nil => rfl
  | cons a l ih => rw [List.flatMap_cons, ih]; rfl
theorem compL_filter {α : Type} {f : D → List Ob → Rs (List D)} {g : Option Nat} {st : List Ob} {F : α → D} {p : α → Bool} {h : α → D} {l : List α} (e : ∀ a ∈ l, f (F a) st = .ok (if p a then [h a] else []) st) : compL f g (l.map F) st = .ok ((l.filter p).map h) st := by
  rw [compL_pure (h := fun a => if p a then [h a] else []) e]
  congr 1
  induction l with
  | nil => rfl
  | cons a l ih =>
    rw [List.flatMap_cons, ih fun b hb => e b (by simp [hb]), List.filter_cons]
    cases p a <;> simp
/-- items one by one, the store going on -/
theorem compL_sat {f : D → List Ob → Rs (List D)} {g : Option Nat} (I : Nat → List Ob → Prop) (P : D → List D → Prop) : ∀ (xs : List D) (n : Nat) (st : List Ob), I (n + xs.length) st →
    (∀ x ∈ xs, ∀ n st, I (n + 1) st → (f x st).sat fun ys st' => same g st st' ∧ P x ys ∧ I n st') → (compL f g xs st).sat fun zs st' => (∃ yss : List (List D), zs = yss.flatten ∧ Paired P xs yss) ∧ I n st'
  | [], n, st, h, _ => by
    rw [compL]
    exact ⟨_, _, rfl, ⟨[], rfl, .nil⟩, h⟩
  | x :: xs, n, st, h, k => by
    rw [compL]
    obtain ⟨ys, st1, e, s, p, i⟩ := k x (by simp) (n + xs.length) st (by simpa [Nat.add_assoc] using h)
    rw [e]
    simp only [if_pos s]
    obtain ⟨zs, st2, e2, ⟨yss, rfl, fa⟩, i2⟩ := compL_sat I P xs n st1 i fun y hy => k y (by simp [hy])
    rw [e2]
    exact ⟨_, _, rfl, ⟨ys :: yss, by simp, .cons p fa⟩, i2⟩
/-- what a walk makes of an item -/
noncomputable def itemF (Φ : Calls) (elt : E) (tg : Tg) (c : Oe) (own : List Nat) (env : Envr) : D → List Ob → Rs (List D) := fun x st => match bindT tg x (wipeE env own) with
        | none => .err
        | some env' => (evC Φ c env' st).bind fun t st => if t then (evE Φ elt env' st).bind fun r st => (match toD r with
          | some d => .ok [d] st
          | none => .err) else .ok [] st
theorem evE_comp {Φ : Calls} {env : Envr} {st : List Ob} (elt : E) (tg : Tg) (src : It) (c : Oe) (own : List Nat) : evE Φ (.comp elt tg src c own) env st = (evI Φ src env st).bind fun p st =>
    (compL (itemF Φ elt tg c own env) p.2 p.1 st).bind fun ds st => .ok (.f (.lst ds)) st := by rw [evE] <;> rfl
section
variable {Φ : Calls} {env : Envr} {st : List Ob} {g : Option Nat} {α : Type} {l : List α} {F : α → D} {src : It} {elt e : E} {tg : Tg} {own : List Nat} {c : Oe}
theorem itemF_no {x d : D} {r : R} {env' : Envr} (hb : bindT tg x (wipeE env own) = some env') (he : evE Φ elt env' st = .ok r st) (hd : toD r = some d) : itemF Φ elt tg .no own env x st = .ok [d] st := by
  simp only [itemF, hb, evC_no, rs_ok, he, hd, if_true]
theorem itemF_yes {x d : D} {r : R} {t : E} {b : Bool} {env' : Envr} (hb : bindT tg x (wipeE env own) = some env') (hc : evE Φ t env' st = .ok (.d (.bool b)) st) (he : b = true → evE Φ elt env' st = .ok r st) (hd : toD r = some d) : itemF Φ elt tg (.yes t) own env x st = .ok (if b then [d] else []) st := by
  cases b with
  | true => simp only [itemF, hb, evC_yes, rs_ok, hc, he rfl, hd, if_true]
  | false => simp [itemF, hb, evC_yes, rs_ok, hc]
theorem cmap {h : α → D} (hi : evI Φ src env st = .ok (l.map F, g) st) (he : ∀ a ∈ l, ∃ env' r, bindT tg (F a) (wipeE env own) = some env' ∧ evE Φ elt env' st = .ok r st ∧ toD r = some (h a)) : evE Φ (.comp elt tg src .no own) env st = .ok (.f (.lst (l.map h))) st := by
  rw [evE_comp, hi, rs_ok, compL_map (h := h) fun a ha => ?_]
  · rfl
  · obtain ⟨env', r, h1, h2, h3⟩ := he a ha
    exact itemF_no h1 h2 h3
theorem cfilter {h : α → D} {p : α → Bool} {t : E} (hi : evI Φ src env st = .ok (l.map F, g) st) (he : ∀ a ∈ l, ∃ env' r, bindT tg (F a) (wipeE env own) = some env' ∧ evE Φ t env' st = .ok (.d (.bool (p a))) st ∧ evE Φ elt env' st = .ok r st ∧ toD r = some (h a)) : evE Φ (.comp elt tg src (.yes t) own) env st = .ok (.f (.lst ((l.filter p).map h))) st := by
  rw [evE_comp, hi, rs_ok, compL_filter (h := h) (p := p) fun a ha => ?_]
  · rfl
  · obtain ⟨env', r, h1, h2, h3, h4⟩ := he a ha
    exact itemF_yes h1 h2 (fun _ => h3) h4
theorem cmap2 {β : Type} {m : α → List β} {F' : β → D} {h : α → β → D} {src' : It} {tg' : Tg} {own' : List Nat} (hi : evI Φ src env st = .ok (l.map F, g) st)
    (he : ∀ a ∈ l, ∃ env1 g', bindT tg (F a) (wipeE env own) = some env1 ∧ evI Φ src' env1 st = .ok ((m a).map F', g') st ∧ ∀ b ∈ m a, ∃ env2 r, bindT tg' (F' b) (wipeE env1 own') = some env2 ∧ evE Φ elt env2 st = .ok r st ∧ toD r = some (h a b))
    (hl : (l.flatMap fun a => (m a).map (h a)).length ≤ 1000000) : evE Φ (.comp2 elt tg src .no tg' src' .no own own') env st = .ok (.f (.lst (l.flatMap fun a => (m a).map (h a)))) st := by
  rw [evE, hi, rs_ok, compL_pure (h := fun a => (m a).map (h a)) fun a ha => ?_]
  · rw [rs_ok, if_pos hl]
  · obtain ⟨env1, g', h1, h2, h3⟩ := he a ha
    simp only [h1, evC_no, rs_ok, if_true, h2]
    refine compL_map fun b hb => ?_
    obtain ⟨env2, r, h4, h5, h6⟩ := h3 b hb
    simp only [h4, evC_no, rs_ok, if_true, h5, h6]
theorem evI_tuple {xs : List D} (h : evE Φ e env st = .ok (.d (.tuple xs)) st) : evI Φ (.of e) env st = .ok (xs, none) st := by rw [evI, h] <;> rfl
theorem evI_list {xs : List D} (h : evE Φ e env st = .ok (.d (.list xs)) st) : evI Φ (.of e) env st = .ok (xs, none) st := by rw [evI, h] <;> rfl
theorem evI_new {xs : List D} (h : evE Φ e env st = .ok (.f (.lst xs)) st) : evI Φ (.of e) env st = .ok (xs, none) st := by rw [evI, h] <;> rfl
theorem evI_str {z : Str} (h : evE Φ e env st = .ok (.d (.str z)) st) : evI Φ (.of e) env st = .ok (z.cps.toList.map fun c => PyData.str ⟨#[c]⟩, none) st := by rw [evI, h] <;> rfl
theorem evI_obj {xs : List D} {i : Nat} (h : evE Φ e env st = .ok (.o i) st) (hs : st[i]? = some (.lst xs)) : evI Φ (.of e) env st = .ok (xs, some i) st := by
  rw [evI, h]
  show (match st[i]? with
      | some (.lst xs) => Rs.ok (xs, some i) st
      | _ => .err) = _
  rw [hs]
theorem evI_range {n : Nat} (h : evE Φ e env st = .ok (.d (.int n)) st) (hn : n < 1000000) : evI Φ (.range1 e) env st = .ok ((List.range n).map fun (k : Nat) => (PyData.int (k : Int)), none) st := by
  have e : evI Φ (.range1 e) env st = if (n : Int) < 1000000 ∧ -1000000 < (n : Int) then Rs.ok (((List.range (n : Int).toNat).map fun (k : Nat) => (PyData.int (k : Int))), none) st else .err := by
    rw [evI, h, rs_ok]
  rw [e, if_pos (by omega), Int.toNat_natCast]
end
@[simp] theorem loopS_nil (body : D → Envr → List Ob → Fl) (g : Option Nat) (env : Envr) (st : List Ob) : loopS body g [] env st = .next env st := by rw [loopS]
theorem loopS_next {body : D → Envr → List Ob → Fl} {g : Option Nat} {x : D} {xs : List D} {env env' : Envr} {st st' : List Ob} (h : body x env st = .next env' st') (hs : same g st st') : loopS body g (x :: xs) env st = loopS body g xs env' st' := by
  rw [loopS, h]
  exact if_pos hs
theorem loopS_ret {body : D → Envr → List Ob → Fl} {g : Option Nat} {x : D} {xs : List D} {env : Envr} {st st' : List Ob} {r : R} (h : body x env st = .ret r st') : loopS body g (x :: xs) env st = .ret r st' := by rw [loopS, h]
/-- a for, by what holds ahead of each item -/
theorem loopS_sat {body : D → Envr → List Ob → Fl} {g : Option Nat} {N : Envr → List Ob → Prop} {Q : R → List Ob → Prop} (I : List D → Envr → List Ob → Prop) :
    ∀ (xs : List D) (env : Envr) (st : List Ob), I xs env st → (∀ env st, I [] env st → N env st) → (∀ x ys env st, I (x :: ys) env st → (body x env st).sat (fun env' st' => same g st st' ∧ I ys env' st') Q) → (loopS body g xs env st).sat N Q
  | [], env, st, h, hn, _ => by
    rw [loopS]
    exact hn _ _ h
  | x :: xs, env, st, h, hn, k => by
    rw [loopS]
    have h1 := k x xs env st h
    cases e : body x env st with
    | next env' st' =>
      rw [e] at h1
      simp only [if_pos h1.1]
      exact loopS_sat I xs env' st' h1.2 hn k
    | ret r st' => rw [e] at h1; exact h1
    | brk _ _ => rw [e] at h1; exact h1.elim
    | cont _ _ => rw [e] at h1; exact h1.elim
    | exc _ _ _ => rw [e] at h1; exact h1.elim
    | err => rw [e] at h1; exact h1.elim
/-! ### the store: what stands behind is the def's own -/
theorem take_app (st l : List Ob) : (st ++ l).take st.length = st := List.take_left
@[simp] theorem set_len (st : List Ob) (i : Nat) (b : Ob) : (st.set i b).length = st.length := List.length_set
theorem set_self {st : List Ob} {i : Nat} {b : Ob} (h : st[i]? = some b) : st.set i b = st := by
  apply List.ext_getElem?
  intro j
  by_cases e : i = j
  · subst e
    obtain ⟨hl, _⟩ := List.getElem?_eq_some_iff.mp h
    rw [List.getElem?_set_self hl, h]
  · rw [List.getElem?_set_ne e]
theorem lt_of_get {st : List Ob} {i : Nat} {b : Ob} (h : st[i]? = some b) : i < st.length := (List.getElem?_eq_some_iff.mp h).1
theorem get_set {st : List Ob} {i : Nat} {b b' : Ob} (h : st[i]? = some b') : (st.set i b)[i]? = some b := List.getElem?_set_self (lt_of_get h)
end Pl

/-! Pl2: data: what is equal, how deep -/
namespace Pl
open PySem Ev PySem.Spec PyProof.Rows
@[simp] theorem eqv_ii (i j : Int) : PyData.eqv (.int i) (.int j) = decide (i = j) := by
  rw [PyData.eqv]
  by_cases h : i = j <;> simp [h]
@[simp] theorem eqv_ss (x y : Str) : PyData.eqv (.str x) (.str y) = decide (x = y) := by
  rw [PyData.eqv]
  by_cases h : x = y <;> simp [h]
@[simp] theorem eqv_bb (x y : Bool) : PyData.eqv (.bool x) (.bool y) = (x == y) := by rw [PyData.eqv]
@[simp] theorem eqv_tt (xs ys : List D) : PyData.eqv (.tuple xs) (.tuple ys) = PyData.eqvAll xs ys := by rw [PyData.eqv]
@[simp] theorem eqv_ll (xs ys : List D) : PyData.eqv (.list xs) (.list ys) = PyData.eqvAll xs ys := by rw [PyData.eqv]
@[simp] theorem eqvAll_nn : PyData.eqvAll [] [] = true := by rw [PyData.eqvAll]
@[simp] theorem eqvAll_nc (x : D) (xs : List D) : PyData.eqvAll [] (x :: xs) = false := by rw [PyData.eqvAll]
@[simp] theorem eqvAll_cn (x : D) (xs : List D) : PyData.eqvAll (x :: xs) [] = false := by rw [PyData.eqvAll]
@[simp] theorem eqvAll_cc (x y : D) (xs ys : List D) : PyData.eqvAll (x :: xs) (y :: ys) = (PyData.eqv x y && PyData.eqvAll xs ys) := by rw [PyData.eqvAll]
@[simp] theorem eqv_nn : PyData.eqv .none .none = true := by rw [PyData.eqv]
@[simp] theorem eqv_ns (x : Str) : PyData.eqv .none (.str x) = false := by rw [PyData.eqv]
@[simp] theorem eqv_sn (x : Str) : PyData.eqv (.str x) .none = false := by rw [PyData.eqv]
@[simp] theorem eqv_st (x : Str) (xs : List D) : PyData.eqv (.str x) (.tuple xs) = false := by rw [PyData.eqv]
@[simp] theorem eqv_ts (x : Str) (xs : List D) : PyData.eqv (.tuple xs) (.str x) = false := by rw [PyData.eqv]
@[simp] theorem eqvAll_nil (xs : List D) : PyData.eqvAll xs [] = xs.isEmpty := by cases xs <;> simp
@[simp] theorem dok_il (i : Int) (d : D) : depthOk (.int i) d = true := by simp [depthOk, PyData.depth]
@[simp] theorem dok_ir (i : Int) (d : D) : depthOk d (.int i) = true := by simp [depthOk, PyData.depth]
@[simp] theorem dok_sl (i : Str) (d : D) : depthOk (.str i) d = true := by simp [depthOk, PyData.depth]
@[simp] theorem dok_sr (i : Str) (d : D) : depthOk d (.str i) = true := by simp [depthOk, PyData.depth]
@[simp] theorem dok_nl (d : D) : depthOk .none d = true := by simp [depthOk, PyData.depth]
@[simp] theorem dok_nr (d : D) : depthOk d .none = true := by simp [depthOk, PyData.depth]
@[simp] theorem dok_bl (b : Bool) (d : D) : depthOk (.bool b) d = true := by simp [depthOk, PyData.depth]
@[simp] theorem dok_br (b : Bool) (d : D) : depthOk d (.bool b) = true := by simp [depthOk, PyData.depth]
@[simp] theorem dok_el (d : D) : depthOk (.list []) d = true := by simp [depthOk, PyData.depth, PyData.depthAll]; omega
@[simp] theorem dok_er (d : D) : depthOk d (.list []) = true := by simp [depthOk, PyData.depth, PyData.depthAll]; omega
@[simp] theorem dok_etl (d : D) : depthOk (.tuple []) d = true := by simp [depthOk, PyData.depth, PyData.depthAll]; omega
@[simp] theorem dok_etr (d : D) : depthOk d (.tuple []) = true := by simp [depthOk, PyData.depth, PyData.depthAll]; omega
/-- texts in a row -/
theorem depth_strs (l : List Str) : PyData.depthAll (l.map PyData.str) = 0 := by
  induction l with
  | nil => rfl
  | cons x l ih => rw [List.map_cons, PyData.depthAll, ih]; rfl
theorem depth_ints (l : List Int) : PyData.depthAll (l.map PyData.int) = 0 := by
  induction l with
  | nil => rfl
  | cons x l ih => rw [List.map_cons, PyData.depthAll, ih]; rfl
theorem depth_mem {x : D} : ∀ {xs : List D}, x ∈ xs → x.depth ≤ PyData.depthAll xs
  | y :: ys, h => by
    rw [PyData.depthAll]
    rcases List.mem_cons.mp h with rfl | h
    · exact Nat.le_max_left _ _
    · exact Nat.le_trans (depth_mem h) (Nat.le_max_right _ _)
theorem depthAll_le {n : Nat} : ∀ {xs : List D}, (∀ x ∈ xs, x.depth ≤ n) → PyData.depthAll xs ≤ n
  | [], _ => Nat.zero_le _
  | y :: ys, h => by
    rw [PyData.depthAll]
    exact Nat.max_le.mpr ⟨h y (by simp), depthAll_le fun x hx => h x (by simp [hx])⟩
theorem dok_of {a b : D} (h : a.depth ≤ 150 ∨ b.depth ≤ 150) : depthOk a b = true := by
  simp only [depthOk, decide_eq_true_eq]
  omega
theorem eqvAll_strs (xs ys : List Str) : PyData.eqvAll (xs.map PyData.str) (ys.map PyData.str) = decide (xs = ys) := by
  induction xs generalizing ys with
  | nil => cases ys <;> simp
  | cons x xs ih => cases ys with
    | nil => simp
    | cons y ys => simp [ih, List.cons.injEq]
theorem eqvAll_ints (xs ys : List Int) : PyData.eqvAll (xs.map PyData.int) (ys.map PyData.int) = decide (xs = ys) := by
  induction xs generalizing ys with
  | nil => cases ys <;> simp
  | cons x xs ih => cases ys with
    | nil => simp
    | cons y ys => simp [ih, List.cons.injEq]
theorem any_strs (x : Str) (xs : List Str) : ((xs.map PyData.str).any fun z => PyData.eqv z (.str x)) = decide (x ∈ xs) := by
  induction xs with
  | nil => rfl
  | cons y ys ih =>
    rw [List.map_cons, List.any_cons, ih]
    by_cases h : y = x
    · simp [h]
    · have : ¬ x = y := fun e => h e.symm
      simp [h, this]
theorem all_bools {α : Type} (p : α → Bool) (l : List α) : ((l.map fun a => PyData.bool (p a)).all isBool) = true ∧ ((l.map fun a => PyData.bool (p a)).all fun x => PyData.eqv x (.bool true)) = l.all p := by
  induction l with
  | nil => exact ⟨rfl, rfl⟩
  | cons a l ih => simp [isBool, ih.2] at *
/-- all over what a walk made -/
theorem primF_all {α : Type} (p : α → Bool) (l : List α) (st : List Ob) : primF .all [.f (.lst (l.map fun a => .bool (p a)))] st = .ok (.d (.bool (l.all p))) st := by
  simp only [primF, newL, (all_bools p l).1, (all_bools p l).2, if_true, okB]
theorem allcomp {Φ : Calls} {env : Envr} {st : List Ob} {g : Option Nat} {α : Type} {l : List α} {F : α → D} {src : It} {elt : E} {tg : Tg} {own : List Nat} {p : α → Bool} (hi : evI Φ src env st = .ok (l.map F, g) st)
    (he : ∀ a ∈ l, ∃ env', bindT tg (F a) (wipeE env own) = some env' ∧ evE Φ elt env' st = .ok (.d (.bool (p a))) st) : evE Φ (.prim .all (.cons (.comp elt tg src .no own) .nil)) env st = .ok (.d (.bool (l.all p))) st := by
  rw [evE_prim, evEs_cons, cmap (h := fun a => .bool (p a)) hi fun a ha => ?_]
  · simp only [rs_ok, evEs_nil, primF_all]
  · obtain ⟨env', h1, h2⟩ := he a ha
    exact ⟨env', _, h1, h2, rfl⟩
@[simp] theorem seqOf_dt (st : List Ob) (xs : List D) : seqOf st (.d (.tuple xs)) = some xs := rfl
@[simp] theorem seqOf_dl (st : List Ob) (xs : List D) : seqOf st (.d (.list xs)) = some xs := rfl
@[simp] theorem seqOf_ds (st : List Ob) (x : Str) : seqOf st (.d (.str x)) = none := rfl
@[simp] theorem seqOf_f (st : List Ob) (xs : List D) : seqOf st (.f (.lst xs)) = some xs := rfl
@[simp] theorem lstOf_dt (st : List Ob) (xs : List D) : lstOf st (.d (.tuple xs)) = none := rfl
@[simp] theorem lstOf_dl (st : List Ob) (xs : List D) : lstOf st (.d (.list xs)) = some xs := rfl
@[simp] theorem lstOf_f (st : List Ob) (xs : List D) : lstOf st (.f (.lst xs)) = some xs := rfl
@[simp] theorem dicOf_d (st : List Ob) (x : D) : dicOf st (.d x) = none := rfl
@[simp] theorem dicOf_fl (st : List Ob) (xs : List D) : dicOf st (.f (.lst xs)) = none := rfl
@[simp] theorem nowD_d (st : List Ob) (x : D) : nowD st (.d x) = some x := rfl
@[simp] theorem nowD_f (st : List Ob) (xs : List D) : nowD st (.f (.lst xs)) = some (.list xs) := rfl
@[simp] theorem toD_d (x : D) : toD (.d x) = some x := rfl
@[simp] theorem toD_f (xs : List D) : toD (.f (.lst xs)) = some (.list xs) := rfl
@[simp] theorem bothD_dd (st : List Ob) (x y : D) (k : D → D → Rs R) : bothD st (.d x) (.d y) k = k x y := rfl
@[simp] theorem bothD_ff (st : List Ob) (x y : List D) (k : D → D → Rs R) : bothD st (.f (.lst x)) (.f (.lst y)) k = k (.list x) (.list y) := rfl
@[simp] theorem lenOf_t (st : List Ob) (xs : List D) : lenOf st (.d (.tuple xs)) = some xs.length := rfl
@[simp] theorem lenOf_s (st : List Ob) (x : Str) : lenOf st (.d (.str x)) = some x.length := rfl
@[simp] theorem isNon_n : isNon (.d .none) = true := rfl
@[simp] theorem isNon_s (x : Str) : isNon (.d (.str x)) = false := rfl
@[simp] theorem isNon_t (x : List D) : isNon (.d (.tuple x)) = false := rfl
theorem primF_sum {α : Type} (p : α → Int) (l : List α) (st : List Ob) : primF .sum [.f (.lst (l.map fun a => .int (p a)))] st = .ok (.d (.int (l.map p).sum)) st := by
  have h : ((l.map fun a => PyData.int (p a)).all isInt) = true ∧ ((l.map fun a => PyData.int (p a)).map theInt) = l.map p := by
    induction l with
    | nil => exact ⟨rfl, rfl⟩
    | cons a l ih => simp_all [Ev.isInt, theInt]
  simp only [primF, newL, h.1, h.2, if_true]
theorem eqvAll_len {xs ys : List D} (h : xs.length ≠ ys.length) : PyData.eqvAll xs ys = false := by
  induction xs generalizing ys with
  | nil => cases ys with
    | nil => simp at h
    | cons y ys => simp
  | cons x xs ih => cases ys with
    | nil => simp
    | cons y ys => simp [ih (ys := ys) (by simpa using h)]
theorem zip_all {α : Type} (G : α → D) {xs : List α} {ys : List Str} (h : xs.length = ys.length) : ((xs.zip ys).all fun p => PyData.eqv (G p.1) (.str p.2)) = PyData.eqvAll (xs.map G) (ys.map .str) := by
  induction xs generalizing ys with
  | nil => cases ys with
    | nil => simp
    | cons y ys => simp at h
  | cons x xs ih => cases ys with
    | nil => simp at h
    | cons y ys => simp [ih (ys := ys) (by simpa using h)]
/-! ### sets of texts -/
def ltS (x y : Str) : Bool := decide (x.cps.toList < y.cps.toList)
def insS (x : Str) : List Str → List Str
  | [] => [x]
  | y :: ys => if ltS y x then y :: insS x ys else x :: y :: ys
def sortS : List Str → List Str
  | [] => []
  | x :: xs => insS x (sortS xs)
def dedupS : List Str → List Str
  | [] => []
  | x :: xs => if x ∈ xs then dedupS xs else x :: dedupS xs
theorem insD_strs (x : Str) (l : List Str) : insD (.str x) (l.map .str) = (insS x l).map .str := by
  induction l with
  | nil => rfl
  | cons y l ih =>
    rw [List.map_cons, insD, insS, show ltD (.str y) (.str x) = ltS y x by rw [ltD, ltS], ih]
    cases ltS y x <;> rfl
theorem sortD_strs (l : List Str) : sortD (l.map .str) = (sortS l).map .str := by
  induction l with
  | nil => rfl
  | cons y l ih => rw [List.map_cons, sortD, sortS, ih, insD_strs]
theorem dedup_strs (l : List Str) : dedup (l.map .str) = (dedupS l).map .str := by
  induction l with
  | nil => rfl
  | cons y l ih =>
    rw [List.map_cons, dedup, dedupS, any_strs, ih]
    by_cases h : y ∈ l <;> simp [h]
@[simp] theorem mem_insS (x z : Str) (l : List Str) : z ∈ insS x l ↔ z = x ∨ z ∈ l := by
  induction l with
  | nil => simp [insS]
  | cons y l ih =>
    rw [insS]
    cases ltS y x
    · simp
    · simp [ih]
      exact or_left_comm
@[simp] theorem mem_sortS (z : Str) (l : List Str) : z ∈ sortS l ↔ z ∈ l := by
  induction l with
  | nil => simp [sortS]
  | cons y l ih => simp [sortS, ih]
@[simp] theorem mem_dedupS (z : Str) (l : List Str) : z ∈ dedupS l ↔ z ∈ l := by
  induction l with
  | nil => simp [dedupS]
  | cons y l ih =>
    rw [dedupS]
    by_cases h : y ∈ l
    · simp only [h, if_true, ih, List.mem_cons]
      constructor
      · exact .inr
      · rintro (rfl | h')
        · exact h
        · exact h'
    · simp [h, ih]
def setS (l : List Str) : List Str := sortS (dedupS l)
@[simp] theorem mem_setS (z : Str) (l : List Str) : z ∈ setS l ↔ z ∈ l := by simp [setS]
theorem all_strs (l : List Str) : (l.map PyData.str).all isStr = true := by induction l <;> simp_all [isStr]
theorem primF_set (l : List Str) (h : l.length ≤ 60) (st : List Ob) : primF .sortset [.f (.lst (l.map .str))] st = .ok (.f (.lst ((setS l).map .str))) st := by
  simp only [primF, newL, all_strs, List.length_map, h, decide_true, Bool.and_self, if_true, dedup_strs, sortD_strs, setS]
theorem cmpLz_of : ∀ {xs ys : List D}, cmpAll xs ys = true → cmpLz xs ys = true
  | [], _, _ => by unfold cmpLz; rfl
  | _ :: _, [], _ => by unfold cmpLz; rfl
  | x :: xs, y :: ys, h => by
    rw [cmpAll, Bool.and_eq_true] at h
    rw [cmpLz, h.1, cmpLz_of h.2]
    simp
theorem cmpPr_of {d e : D} (h : cmpOk d e = true) : cmpPr d e = true := by
  cases d with
  | tuple xs => cases e with
    | tuple ys => exact cmpLz_of h
    | _ => cases h
  | _ => exact h
theorem zipOk_l {xs ys : List D} (h : ∀ x ∈ xs, isPair2 x = false) : zipOk xs ys = true := by
  unfold zipOk
  induction xs generalizing ys with
  | nil => rfl
  | cons x xs ih =>
    cases ys with
    | nil => rfl
    | cons y ys =>
      rw [List.zipWith_cons_cons, List.all_cons, ih fun z hz => h z (by simp [hz])]
      simp [prOk, h x (by simp)]
theorem zipOk_strs (l : List Str) (m : List D) : zipOk (l.map PyData.str) m = true := zipOk_l fun x hx => by
  obtain ⟨s, _, rfl⟩ := List.mem_map.mp hx
  rfl
theorem zipOk_r (l : List D) (m : List Str) : zipOk l (m.map PyData.str) = true := by
  unfold zipOk
  induction l generalizing m with
  | nil => rfl
  | cons x l ih =>
    cases m with
    | nil => rfl
    | cons y m =>
      rw [List.map_cons, List.zipWith_cons_cons, List.all_cons, ih]
      simp [prOk, isPair2]
end Pl

/-! Pl3: dicts with tuple keys -/
namespace Pl
open PySem Ev PySem.Spec PyProof.Rows
section
variable (Φ : Calls) (env : Envr) (st : List Ob)
@[simp] theorem evE_dnewT : evE Φ .dnewT env st = .ok (.f (.dit false [])) st := by rw [evE] <;> rfl
@[simp] theorem evE_get2 (a b c : E) : evE Φ (.get2 a b c) env st = (evE Φ a env st).bind fun x st => if isDict x st then (evE Φ b env st).bind fun y st => (evE Φ c env st).bind fun z st => get2F x y z st else .err := by rw [evE] <;> rfl
@[simp] theorem evE_setd (a b c : E) : evE Φ (.setd a b c) env st = (evE Φ a env st).bind fun x st => if isDict x st then (evE Φ b env st).bind fun y st => (evE Φ c env st).bind fun z st => setdF x y z st else .err := by rw [evE] <;> rfl
end
variable {Φ : Calls} {env : Envr} {st : List Ob}
theorem set_back {st : List Ob} {i : Nat} {b : Ob} (h : st[i]? = some b) (b' : Ob) : (st.set i b').set i b = st := by
  rw [List.set_set, set_self h]
theorem evE_lock {v i : Nat} {kvs : List (D × D)} {e : E} {r : R} (hv : env[v]? = some (some (.o i))) (hs : st[i]? = some (.dit false kvs)) (h : evE Φ e env (st.set i (.dit true kvs)) = .ok r (st.set i (.dit true kvs))) : evE Φ (.lock v e) env st = .ok r st := by
  rw [evE, lockO, hv]
  simp only [hs, h]
  rw [unE, get_set hs]
  simp only [set_back hs]
theorem evI_dkeys {v i : Nat} {kvs : List (D × D)} (hv : env[v]? = some (some (.o i))) (hs : st[i]? = some (.dit true kvs)) : evI Φ (.dkeys v) env st = .ok (kvs.map (·.1), some i) st := by
  rw [evI, hv]
  simp only [hs]
theorem evI_ditems {v i : Nat} {kvs : List (D × D)} (hv : env[v]? = some (some (.o i))) (hs : st[i]? = some (.dit true kvs)) (hg : (kvs.all fun p => prOk p.1 p.2) = true) : evI Φ (.ditems v) env st = .ok (kvs.map fun p => .tuple [p.1, p.2], some i) st := by
  rw [evI, hv]
  simp only [hs, hg, if_true]
theorem dicOf_t {i : Nat} {l : Bool} {kvs : List (D × D)} (hs : st[i]? = some (.dit l kvs)) : dicOf st (.o i) = none := by simp [dicOf, hs]
theorem ditOf_t {i : Nat} {l : Bool} {kvs : List (D × D)} (hs : st[i]? = some (.dit l kvs)) : ditOf st (.o i) = some kvs := by simp [ditOf, hs]
theorem lenOf_dt {i : Nat} {kvs : List (D × D)} (hs : st[i]? = some (.dit false kvs)) : lenOf st (.o i) = some kvs.length := by simp [lenOf, seqOf, lstOf, dicOf, ditFree, hs]
theorem isDict_t {i : Nat} {l : Bool} {kvs : List (D × D)} (hs : st[i]? = some (.dit l kvs)) : isDict (.o i) st = true := by simp [isDict, dicOf_t hs, ditOf_t hs]
theorem get2_t {i : Nat} {l : Bool} {kvs : List (D × D)} {k e : D} (hs : st[i]? = some (.dit l kvs)) (hk : (keyT k).isSome = true) : get2F (.o i) (.d k) (.d e) st = .ok (.d ((dget kvs k).getD e)) st := by simp [get2F, dicOf_t hs, ditOf_t hs, hk]
theorem idx_t {i : Nat} {l : Bool} {kvs : List (D × D)} {ks : List D} {x : D} (hs : st[i]? = some (.dit l kvs)) (hk : (keyT (.tuple ks)).isSome = true) (h : dget kvs (.tuple ks) = some x) : idxF (.o i) (.d (.tuple ks)) st = .ok (.d x) st := by simp [idxF, idxT, dicOf_t hs, ditOf_t hs, hk, h]
theorem sub_t {i : Nat} {kvs : List (D × D)} {k x : D} (hs : st[i]? = some (.dit false kvs)) (hk : (keyT k).isSome = true) (hl : kvs.length < 1000000) : subF (.o i) (.d k) (.d x) st = some (st.set i (.dit false (dput kvs k x))) := by simp [subF, toD, hs, hk, hl]
theorem in_t {i : Nat} {l : Bool} {kvs : List (D × D)} {ks : List D} (hs : st[i]? = some (.dit l kvs)) (hk : (keyT (.tuple ks)).isSome = true) : cmpF .isin (.d (.tuple ks)) (.o i) st = .ok (.d (.bool (dget kvs (.tuple ks)).isSome)) st := by simp [cmpF, cmpF.inF, dicOf_t hs, seqOf, lstOf, hs, inT, ditOf_t hs, hk]
theorem notin_t {i : Nat} {l : Bool} {kvs : List (D × D)} {ks : List D} (hs : st[i]? = some (.dit l kvs)) (hk : (keyT (.tuple ks)).isSome = true) : cmpF .notin (.d (.tuple ks)) (.o i) st = .ok (.d (.bool (!(dget kvs (.tuple ks)).isSome))) st := by simp [cmpF, cmpF.inF, dicOf_t hs, seqOf, lstOf, hs, inT, ditOf_t hs, hk]
theorem setd_t {i : Nat} {kvs : List (D × D)} {k e : D} (hs : st[i]? = some (.dit false kvs)) (hk : (keyT k).isSome = true) (hl : kvs.length < 1000000) : setdF (.o i) (.d k) (.d e) st = match dget kvs k with
    | some d => .ok (.d d) st
    | none => .ok (.d e) (st.set i (.dit false (dput kvs k e))) := by
  cases h : dget kvs k <;> simp [setdF, hs, hk, hl, h]
/-- a new object as the second argument -/
theorem callF_f2 {fd : FD} {a v : D} {b : Ob} (hl : 2 = fd.np) (h1 : callF Φ fd [.d a, .o st.length] (st ++ [b]) = .ok (.d v) (st ++ [b])) : callF Φ fd [.d a, .f b] st = .ok (.d v) st := by
  rw [callF, if_pos (show [R.d a, R.o st.length].length = fd.np from hl)] at h1
  rw [callF, if_pos (show [R.d a, R.f b].length = fd.np from hl)]
  simp only [allocs_d, allocs_o, allocs_f, allocs_nil] at h1 ⊢
  revert h1
  cases exSs Φ fd.body (startE fd [.d a, .o st.length]) (st ++ [b]) with
  | next e s =>
    simp only [handB_d]
    intro h
    have h3 : s.take (st ++ [b]).length = st ++ [b] := by injection h
    have h4 : PyData.none = v := by
      injection h with h5
      injection h5
    rw [h4]
    have h6 := congrArg (List.take st.length) h3
    rw [List.take_take, List.length_append, Nat.min_eq_left (by omega), List.take_left] at h6
    rw [h6]
  | ret r s =>
    cases r with
    | d x =>
      simp only [handB_d]
      intro h
      have h3 : s.take (st ++ [b]).length = st ++ [b] := by injection h
      have h4 : x = v := by
        injection h with h5
        injection h5
      rw [h4]
      have h6 := congrArg (List.take st.length) h3
      rw [List.take_take, List.length_append, Nat.min_eq_left (by omega), List.take_left] at h6
      rw [h6]
    | f b => simp
    | o q =>
      simp only [handB]
      intro h
      by_cases c : q < (st ++ [b]).length
      · rw [if_pos c] at h
        simp at h
      · rw [if_neg c, if_neg c] at h
        cases hq : s[q]? with
        | none => rw [hq] at h; simp at h
        | some z => rw [hq] at h; simp at h
  | brk _ _ => simp
  | cont _ _ => simp
  | exc _ _ _ => simp
  | err => simp
theorem calls_f2 {tb : List FD} {k n : Nat} {fd : FD} {a v : D} {b : Ob} (hk : 0 < k) (hf : tb[n]? = some fd) (hl : 2 = fd.np) (h1 : calls tb k n [.d a, .o st.length] (st ++ [b]) = .ok (.d v) (st ++ [b])) : calls tb k n [.d a, .f b] st = .ok (.d v) st := by
  rw [calls_at hk hf] at h1 ⊢
  exact callF_f2 hl h1
theorem evI_zip {a b : E} {xs ys : List D} (h1 : evE Φ a env st = .ok (.d (.tuple xs)) st) (h2 : evE Φ b env st = .ok (.d (.tuple ys)) st) (hg : zipOk xs ys = true) : evI Φ (.zip a b) env st = .ok (xs.zipWith (fun x y => .tuple [x, y]) ys, none) st := by
  rw [evI, h1, rs_ok, h2, rs_ok]
  exact if_pos hg
theorem exS_ite_t {c : E} {a b : Ss} {st' : List Ob} (h : evE Φ c env st = .ok (.d (.bool true)) st') : exS Φ (.ite c a b) env st = exSs Φ a env st' := by rw [exS_ite, h, fl_ok, brF_b, if_pos rfl]
theorem exS_ite_f {c : E} {a b : Ss} {st' : List Ob} (h : evE Φ c env st = .ok (.d (.bool false)) st') : exS Φ (.ite c a b) env st = exSs Φ b env st' := by rw [exS_ite, h, fl_ok, brF_b, if_neg (by decide)]
theorem go_next {s : S} {ss : Ss} {env' : Envr} {st' : List Ob} (h : exS Φ s env st = .next env' st') : exSs Φ (.cons s ss) env st = exSs Φ ss env' st' := by rw [exSs_cons, h]
theorem go_ret {s : S} {ss : Ss} {r : R} {st' : List Ob} (h : exS Φ s env st = .ret r st') : exSs Φ (.cons s ss) env st = .ret r st' := by rw [exSs_cons, h]
theorem exS_asg_d {i : Nat} {e : E} {x : D} {st' : List Ob} (h : evE Φ e env st = .ok (.d x) st') : exS Φ (.asg i e) env st = .next (env.set i (some (.d x))) st' := by rw [exS_asg, h, fl_ok]; rfl
theorem exS_asg_f {i : Nat} {e : E} {b : Ob} {st' : List Ob} (h : evE Φ e env st = .ok (.f b) st') : exS Φ (.asg i e) env st = .next (env.set i (some (.o st'.length))) (st' ++ [b]) := by rw [exS_asg, h, fl_ok]; rfl
theorem exS_asg_o {i j : Nat} {e : E} {st' : List Ob} (h : evE Φ e env st = .ok (.o j) st') : exS Φ (.asg i e) env st = .next (env.set i (some (.o j))) st' := by rw [exS_asg, h, fl_ok]; rfl
theorem exS_ret' {e : E} {r : R} {st' : List Ob} (h : evE Φ e env st = .ok r st') : exS Φ (.ret e) env st = .ret r st' := by rw [exS_ret, h, fl_ok]
theorem exS_sub' {o i v : E} {x y z : R} {st1 st2 : List Ob} (h1 : evE Φ v env st = .ok x st1) (h2 : evE Φ o env st1 = .ok y st1) (h3 : evE Φ i env st1 = .ok z st1) (h : subF y z x st1 = some st2) : exS Φ (.sub o i v) env st = .next env st2 := by
  rw [exS_sub, h1, fl_ok, h2, fl_ok, h3, fl_ok, h]
end Pl

namespace K02
open PySem Ev Hd Pl
/-- is_row: a tuple of n -/
def isRow (n : Nat) : D → Bool
  | .tuple xs => decide (xs.length = n)
  | _ => false
theorem c1 {k : Nat} (hk : 0 < k) (d : D) (n : Nat) (st : List Ob) : calls tb k 0 [.d d, .d (.int n)] st = .ok (.d (.bool (isRow n d))) st := by
  rw [calls_at hk (fd := f0) rfl]
  refine callF_d rfl rfl ?_
  cases d with
  | tuple xs => simp [f0, startE, primF, isaD, lenOf, seqOf, cmpF, bothD, nowD, isRow]; omega
  | _ => rfl
def smallS : Str := "abcdefghijklmnopqrstuvwxyz"
def bigS : Str := "ABCDEFGHIJKLMNOPQRSTUVWXYZ"
def digS : Str := "0123456789"
/-- signs of a text that stand in another -/
def allIn (z : Str) (xs : List Nat) : Bool := xs.all fun c => decide (c ∈ z.cps.toList)
def isWord : D → Bool
  | .str x => decide ((1 : Int) ≤ x.length ∧ (x.length : Int) ≤ 8) && allIn smallS x.cps.toList
  | _ => false
theorem c2 {k : Nat} (hk : 0 < k) (d : D) (st : List Ob) : calls tb k 1 [.d d] st = .ok (.d (.bool (isWord d))) st := by
  rw [calls_at hk (fd := f1) rfl]
  refine callF_d rfl rfl ?_
  cases d with
  | str x =>
    have w : ∀ st, evE (calls tb (k - 1)) (.prim .all (.cons (.comp (.cmp .isin (.var 1) (.dat (.str "abcdefghijklmnopqrstuvwxyz"))) (.name 1) (.of (.var 0)) .no [1]) .nil)) [some (.d (.str x)), none] st = .ok (.d (.bool (allIn smallS x.cps.toList))) st := fun st => by
      refine allcomp (evI_str (by simp)) fun c _ => ⟨_, rfl, ?_⟩
      simp [wipeE, cmpF, cmpF.inF, dicOf, seqOf, lstOf, Str.length, smallS]
      exact decide_eq_decide.mpr Iff.rfl
    show exSs (calls tb (k - 1)) f1.body [some (.d (.str x)), none] st = _
    simp [f1, w, primF, isaD, lenOf, seqOf, cmpF, isWord]
  | _ => rfl
def isName : D → Bool
  | .str x => decide ((1 : Int) ≤ x.length ∧ (x.length : Int) ≤ 4) && (decide (x.cps.toList.headD 0 ∈ bigS.cps.toList) && allIn digS (x.cps.toList.drop 1))
  | _ => false
theorem cut1 {α : Type} (l : List α) : cutL l (some 1) none = l.drop 1 := by
  have e : HT.sIx l.length 0 (some 1) = min 1 l.length := HT.sIx_nat l.length 0 1
  rw [cutL, e, HT.sIx_none]
  cases l with
  | nil => rfl
  | cons x l => simp
theorem idx_str0 {x : Str} (h : 1 ≤ x.length) (st : List Ob) : idxF (.d (.str x)) (.d (.int 0)) st = .ok (.d (.str ⟨#[x.cps.toList.headD 0]⟩)) st := by
  cases e : x.cps.toList with
  | nil =>
    have : x.cps.size = 0 := by rw [← Array.length_toList, e]; rfl
    simp [Str.length, this] at h
  | cons c l => simp [idxF, dicOf, idxS, signs, e, L2.atI, L2.ixN]
theorem c3 {k : Nat} (hk : 0 < k) (d : D) (st : List Ob) : calls tb k 2 [.d d] st = .ok (.d (.bool (isName d))) st := by
  rw [calls_at hk (fd := f2) rfl]
  refine callF_d rfl rfl ?_
  cases d with
  | str x =>
    have w : ∀ st, evE (calls tb (k - 1)) (.prim .all (.cons (.comp (.cmp .isin (.var 1) (.dat (.str "0123456789"))) (.name 1) (.of (.slc (.var 0) (.yes (.dat (.int 1))) .no)) .no [1]) .nil)) [some (.d (.str x)), none] st = .ok (.d (.bool (allIn digS (x.cps.toList.drop 1)))) st := fun st => by
      refine allcomp (evI_str (z := ⟨(x.cps.toList.drop 1).toArray⟩) (by simp [slcF, cut1])) fun c _ => ⟨_, rfl, ?_⟩
      simp [wipeE, cmpF, cmpF.inF, dicOf, seqOf, lstOf, Str.length, digS]
      exact decide_eq_decide.mpr Iff.rfl
    show exSs (calls tb (k - 1)) f2.body [some (.d (.str x)), none] st = _
    have hb : (!decide ((1 : Int) ≤ x.length) || !decide ((x.length : Int) ≤ 4)) = !decide ((1 : Int) ≤ x.length ∧ (x.length : Int) ≤ 4) := by rw [Bool.decide_and, Bool.not_and]
    by_cases h : (1 : Int) ≤ x.length ∧ (x.length : Int) ≤ 4
    · simp [f2, w, primF, isaD, lenOf, seqOf, cmpF, isName, h, idx_str0 (x := x) (by omega), cmpF.inF, dicOf, lstOf, bigS]
      simp [Str.length]
      congr 5
    · simp [f2, w, primF, isaD, lenOf, seqOf, cmpF, isName, h, hb]
  | _ => rfl
def asc (l : List Str) : Bool := (l.zip (l.drop 1)).all fun p => ltS p.1 p.2
theorem c4 {k : Nat} (hk : 0 < k) (l : List Str) (st : List Ob) : calls tb k 3 [.f (.lst (l.map .str))] st = .ok (.d (.bool (asc l))) st := by
  rw [calls_at hk (fd := f3) rfl]
  refine callF_x (ex := [.lst (l.map .str)]) (ex' := [.lst (l.map .str)]) rfl rfl rfl rfl ?_
  have hs : (st ++ [Ob.lst (l.map .str)])[st.length]? = some (.lst (l.map .str)) := by simp
  have w : evE (calls tb (k - 1)) (.prim .all (.cons (.comp (.cmp .lt (.var 1) (.var 2)) (.tup [1, 2]) (.zip (.var 0) (.slc (.var 0) (.yes (.dat (.int 1))) .no)) .no [1, 2]) .nil)) [some (.o st.length), none, none] (st ++ [.lst (l.map .str)]) = .ok (.d (.bool (asc l))) (st ++ [.lst (l.map .str)]) := by
    refine allcomp (l := l.zip (l.drop 1)) (F := fun p => .tuple [.str p.1, .str p.2]) (g := some st.length) ?_ fun p _ => ⟨_, rfl, ?_⟩
    · simp only [evI, evE_var, List.getElem?_cons_zero, rs_ok, evE_slc, evO_yes, evE_dat, evO_no, slcF, lstOf, hs, cut1]
      rw [← List.map_drop, if_pos (zipOk_strs _ _)]
      simp
      rw [← List.map_tail, List.zipWith_map, List.zip, List.map_zipWith]
    · simp [wipeE, setAll, cmpF, cmpOk, ltD, ltS]
  show exSs (calls tb (k - 1)) f3.body [some (.o st.length), none, none] _ = _
  simp [f3, w]
/-! ### signatures -/
abbrev Row := Str × List Str × Str
abbrev Sg := List Row
def rowD (r : Row) : D := .tuple [.str r.1, .tuple (r.2.1.map .str), .str r.2.2]
def sgD (s : Sg) : D := .tuple (s.map rowD)
@[simp] theorem idx_row0 (r : Row) (st : List Ob) : idxF (.d (rowD r)) (.d (.int 0)) st = .ok (.d (.str r.1)) st := rfl
@[simp] theorem idx_row1 (r : Row) (st : List Ob) : idxF (.d (rowD r)) (.d (.int 1)) st = .ok (.d (.tuple (r.2.1.map .str))) st := rfl
@[simp] theorem idx_row2 (r : Row) (st : List Ob) : idxF (.d (rowD r)) (.d (.int 2)) st = .ok (.d (.str r.2.2)) st := rfl
@[simp] theorem isNon_row (r : Row) : isNon (.d (rowD r)) = false := rfl
def orN : Option Row → D
  | some r => rowD r
  | none => .none
theorem c5 {k : Nat} (hk : 0 < k) (s : Sg) (x : Str) (st : List Ob) : calls tb k 4 [.d (sgD s), .d (.str x)] st = .ok (.d (orN (s.find? fun r => decide (r.1 = x)))) st := by
  rw [calls_at hk (fd := f4) rfl]
  refine callF_d rfl rfl ?_
  show exSs (calls tb (k - 1)) f4.body [some (.d (sgD s)), some (.d (.str x)), none] st = _
  have w : ∀ (l : Sg) (v : Option R), (∃ v', loopS (forB (calls tb (k - 1)) (.name 2) (.cons (.ite (.cmp .eq (.prim .idx (.cons (.var 2) (.cons (.dat (.int 0)) .nil))) (.var 1)) (.cons (.ret (.var 2)) .nil) .nil) .nil)) none (l.map rowD) [some (.d (sgD s)), some (.d (.str x)), v] st = match l.find? fun r => decide (r.1 = x) with
        | some r => .ret (.d (rowD r)) st
        | none => .next [some (.d (sgD s)), some (.d (.str x)), v'] st) := by
    intro l
    induction l with
    | nil => exact fun v => ⟨v, by simp⟩
    | cons r l ih =>
      intro v
      by_cases h : r.1 = x
      · refine ⟨v, ?_⟩
        rw [List.map_cons, loopS_ret (r := .d (rowD r)) (st' := st)]
        · simp [h]
        · simp [forB, bindT, primF, cmpF, bothD, nowD, h]
      · obtain ⟨v', e⟩ := ih (some (.d (rowD r)))
        refine ⟨v', ?_⟩
        rw [List.map_cons, loopS_next (env' := [some (.d (sgD s)), some (.d (.str x)), some (.d (rowD r))]) (st' := st), e]
        · simp [h]
        · simp [forB, bindT, primF, cmpF, bothD, nowD, h]
        · exact same_none _ _
  obtain ⟨v', e⟩ := w s none
  have hi : evI (calls tb (k - 1)) (.of (.var 0)) [some (.d (sgD s)), some (.d (.str x)), none] st = .ok (s.map rowD, none) st := evI_tuple (by simp [sgD])
  simp only [f4, exSs_cons, exS_for, hi, fl_ok, e]
  cases h : s.find? fun r => decide (r.1 = x) with
  | none =>
    simp [orN, h]
  | some r => simp [orN]
/-- rows as far as they are walked -/
structure Sm (s : Sg) : Prop where
  rows : s.length ≤ 9
  args : ∀ r ∈ s, r.2.1.length ≤ 3
def allS (s : Sg) : List Str := s.flatMap fun r => r.2.1 ++ [r.2.2]
theorem allS_len {s : Sg} (h : ∀ r ∈ s, r.2.1.length ≤ 3) : (allS s).length ≤ 4 * s.length := by
  induction s with
  | nil => simp [allS]
  | cons r s ih =>
    have h1 := ih fun r hr => h r (by simp [hr])
    have h2 := h r (by simp)
    simp only [allS, List.flatMap_cons, List.length_append, List.length_cons] at *
    simp at *
    omega
theorem slc_row (r : Row) (st : List Ob) : slcF (.d (rowD r)) (some 2) none st = .ok (.d (.tuple [.str r.2.2])) st := rfl
theorem c6 {k : Nat} (hk : 0 < k) {s : Sg} (hs : Sm s) (st : List Ob) : calls tb k 5 [.d (sgD s)] st = .ok (.d (.tuple ((setS (allS s)).map .str))) st := by
  rw [calls_at hk (fd := f5) rfl]
  refine callF_d rfl rfl ?_
  show exSs (calls tb (k - 1)) f5.body [some (.d (sgD s)), none, none] st = _
  have hl : (allS s).length ≤ 36 := by have := allS_len hs.args; have := hs.rows; omega
  have ef : (s.flatMap fun a => (a.2.1 ++ [a.2.2]).map PyData.str) = (allS s).map PyData.str := by simp [allS, List.map_flatMap]
  have w := cmap2 (Φ := calls tb (k - 1)) (env := [some (.d (sgD s)), none, none]) (st := st) (g := none) (l := s) (F := rowD) (src := .of (.var 0)) (elt := .var 2) (tg := .name 1) (own := [1, 2])
    (m := fun r => r.2.1 ++ [r.2.2]) (F' := PyData.str) (h := fun _ x => .str x) (src' := .of (.prim .add (.cons (.prim .idx (.cons (.var 1) (.cons (.dat (.int 1)) .nil))) (.cons (.slc (.var 1) (.yes (.dat (.int 2))) .no) .nil)))) (tg' := .name 2) (own' := [2])
    (evI_tuple (by simp [sgD])) (fun r hr => ⟨_, none, rfl, evI_tuple ?_, fun x _ => ⟨_, _, rfl, by simp [wipeE]; rfl, rfl⟩⟩) (by
      show (s.flatMap fun a => (a.2.1 ++ [a.2.2]).map PyData.str).length ≤ 1000000
      rw [ef]
      simp
      omega)
  · rw [show (s.flatMap fun a => (a.2.1 ++ [a.2.2]).map fun x => PyData.str x) = (allS s).map PyData.str from ef] at w
    simp only [f5, exSs_cons, exS_ret, evE_prim, evEs_cons, w, rs_ok, evEs_nil, primF_set _ (by omega : (allS s).length ≤ 60)]
    simp [primF, seqOf, lstOf]
  · have := hs.args r hr
    simp [wipeE, primF, slc_row, addF]
    omega
end K02

namespace K02
open PySem Ev Hd Pl
/-! ### terms -/
inductive Tm where
  | var (x s : Str)
  | app (f : Str) (ts : List Tm)
theorem Tm.ind {P : Tm → Prop} (hv : ∀ x s, P (.var x s)) (ha : ∀ f ts, (∀ t ∈ ts, P t) → P (.app f ts)) : ∀ t, P t
  | .var x s => hv x s
  | .app f ts => ha f ts fun t ht => Tm.ind hv ha t
mutual
def tmD : Tm → D
  | .var x s => .tuple [.str "var", .str x, .str s]
  | .app f ts => .tuple [.str "app", .str f, .tuple (tmDs ts)]
def tmDs : List Tm → List D
  | [] => []
  | t :: ts => tmD t :: tmDs ts
end
theorem tmDs_map : ∀ ts, tmDs ts = ts.map tmD
  | [] => rfl
  | t :: ts => by rw [tmDs, tmDs_map ts]; rfl
theorem tmD_var (x s : Str) : tmD (.var x s) = .tuple [.str "var", .str x, .str s] := by rw [tmD]
theorem tmD_app (f : Str) (ts : List Tm) : tmD (.app f ts) = .tuple [.str "app", .str f, .tuple (ts.map tmD)] := by rw [tmD, tmDs_map]
mutual
def Tm.size : Tm → Nat
  | .var _ _ => 1
  | .app _ ts => 1 + sizes ts
def sizes : List Tm → Nat
  | [] => 0
  | t :: ts => t.size + sizes ts
end
mutual
def Tm.dep : Tm → Nat
  | .var _ _ => 1
  | .app _ ts => 1 + deps ts
def deps : List Tm → Nat
  | [] => 0
  | t :: ts => max t.dep (deps ts)
end
theorem dep_mem {t : Tm} : ∀ {ts : List Tm}, t ∈ ts → t.dep ≤ deps ts
  | u :: us, h => by
    rw [deps]
    rcases List.mem_cons.mp h with rfl | h
    · exact Nat.le_max_left _ _
    · exact Nat.le_trans (dep_mem h) (Nat.le_max_right _ _)
theorem size_pos : ∀ t : Tm, 0 < t.size
  | .var _ _ => by rw [Tm.size]; decide
  | .app _ ts => by rw [Tm.size]; omega
theorem var_ne_app : ¬ ((("app" : Str) = ("var" : Str))) := by decide
theorem app_ne_var : ¬ ((("var" : Str) = ("app" : Str))) := by decide
theorem sizes_sum : ∀ ts : List Tm, ((ts.map fun t => (t.size : Int)).sum) = (sizes ts : Int)
  | [] => rfl
  | t :: ts => by rw [List.map_cons, List.sum_cons, sizes_sum ts, sizes]; omega
theorem idx3_0 (a b c : D) (st : List Ob) : idxF (.d (.tuple [a, b, c])) (.d (.int 0)) st = .ok (.d a) st := rfl
theorem idx3_1 (a b c : D) (st : List Ob) : idxF (.d (.tuple [a, b, c])) (.d (.int 1)) st = .ok (.d b) st := rfl
theorem idx3_2 (a b c : D) (st : List Ob) : idxF (.d (.tuple [a, b, c])) (.d (.int 2)) st = .ok (.d c) st := rfl
@[simp] theorem idx_v0 (x s : Str) (st : List Ob) : idxF (.d (tmD (.var x s))) (.d (.int 0)) st = .ok (.d (.str "var")) st := by rw [tmD_var]; rfl
@[simp] theorem idx_v1 (x s : Str) (st : List Ob) : idxF (.d (tmD (.var x s))) (.d (.int 1)) st = .ok (.d (.str x)) st := by rw [tmD_var]; rfl
@[simp] theorem idx_v2 (x s : Str) (st : List Ob) : idxF (.d (tmD (.var x s))) (.d (.int 2)) st = .ok (.d (.str s)) st := by rw [tmD_var]; rfl
@[simp] theorem idx_a0 (x : Str) (ts : List Tm) (st : List Ob) : idxF (.d (tmD (.app x ts))) (.d (.int 0)) st = .ok (.d (.str "app")) st := by rw [tmD_app]; rfl
@[simp] theorem idx_a1 (x : Str) (ts : List Tm) (st : List Ob) : idxF (.d (tmD (.app x ts))) (.d (.int 1)) st = .ok (.d (.str x)) st := by rw [tmD_app]; rfl
@[simp] theorem idx_a2 (x : Str) (ts : List Tm) (st : List Ob) : idxF (.d (tmD (.app x ts))) (.d (.int 2)) st = .ok (.d (.tuple (ts.map tmD))) st := by rw [tmD_app]; rfl
theorem c7 (t : Tm) : ∀ {k : Nat} (hk : t.dep ≤ k) (st : List Ob), calls tb k 6 [.d (tmD t)] st = .ok (.d (.int t.size)) st := by
  induction t using Tm.ind with
  | hv x s =>
    intro k hk st
    rw [Tm.dep] at hk
    rw [calls_at (by omega) (fd := f6) rfl]
    refine callF_d rfl rfl ?_
    show exSs (calls tb (k - 1)) f6.body [some (.d (tmD _)), none] st = _
    simp [f6, primF, cmpF, bothD, nowD, Tm.size]
  | ha f ts ih =>
    intro k hk st
    rw [Tm.dep] at hk
    rw [calls_at (by omega) (fd := f6) rfl]
    refine callF_d rfl rfl ?_
    show exSs (calls tb (k - 1)) f6.body [some (.d (tmD _)), none] st = _
    have w : ∀ st, evE (calls tb (k - 1)) (.prim .sum (.cons (.comp (.call 6 (.cons (.var 1) .nil)) (.name 1) (.of (.prim .idx (.cons (.var 0) (.cons (.dat (.int 2)) .nil)))) .no [1]) .nil)) [some (.d (tmD (.app f ts))), none] st = .ok (.d (.int (sizes ts))) st := fun st => by
      rw [evE_prim, evEs_cons, cmap (l := ts) (F := tmD) (g := none) (h := fun t => .int (t.size : Int)) (evI_tuple (by simp [primF])) fun t ht => ⟨_, .d (.int (t.size : Int)), rfl, ?_, rfl⟩]
      · simp [primF_sum, sizes_sum]
      · have := dep_mem ht
        simp [wipeE, ih t ht (k := k - 1) (by omega)]
    simp [f6, cmpF, bothD, nowD, Tm.size, w, var_ne_app]
    simp [primF, cmpF, bothD, nowD, Tm.size, w, var_ne_app, addF]
/-! ### the sort of anything -/
def isVar (s : Sg) (b c : D) : Bool := isName b && (isStr c && (setS (allS s)).any fun z => PyData.eqv (.str z) c)
theorem isRow3 {d : D} : isRow 3 d = true → ∃ a b c, d = .tuple [a, b, c] := by
  cases d with
  | tuple xs => match xs with
    | [a, b, c] => exact fun _ => ⟨a, b, c, rfl⟩
    | [] => intro h; simp [isRow] at h
    | [_] => intro h; simp [isRow] at h
    | [_, _] => intro h; simp [isRow] at h
    | _ :: _ :: _ :: _ :: _ => intro h; simp [isRow] at h
  | _ => intro h; simp [isRow] at h
theorem c11 {k : Nat} (hk : 1 < k) {s : Sg} (hs : Sm s) (b c : D) (st : List Ob) : calls tb k 10 [.d (sgD s), .d (.tuple [.str "var", b, c])] st = .ok (.d (.bool (isVar s b c))) st := by
  rw [calls_at (by omega) (fd := f10) rfl]
  refine callF_d rfl rfl ?_
  show exSs (calls tb (k - 1)) f10.body [some (.d (sgD s)), some (.d (.tuple [.str "var", b, c]))] st = _
  have h1 : ∀ st, calls tb (k - 1) 0 [.d (.tuple [.str "var", b, c]), .d (.int 3)] st = .ok (.d (.bool true)) st := fun st => c1 (k := k - 1) (by omega) (.tuple [.str "var", b, c]) 3 st
  have h3 := c3 (k := k - 1) (by omega) b st
  have h6 := c6 (k := k - 1) (by omega) hs st
  cases hb : isName b with
  | false => simp [f10, primF, idx3_0, idx3_1, idx3_2, h1, h3, h6, isaD, cmpF, isVar, isStr, hb]
  | true =>
    cases c with
    | str z => simp [f10, primF, idx3_0, idx3_1, idx3_2, h1, h3, h6, isaD, cmpF, isVar, isStr, cmpF.inF, hb, Function.comp_def]
    | _ => simp [f10, primF, idx3_0, idx3_1, idx3_2, h1, h3, h6, isaD, cmpF, isVar, isStr, hb]
mutual
/-- the sort of anything, or nothing -/
def srt (s : Sg) : D → D
  | .tuple xs => srtRow s xs
  | _ => .none
def srtRow (s : Sg) : List D → D
  | [.str h, b, c] => if h = "var" then (if isVar s b c then c else .none) else match parts s c with
    | some ss => match b with
      | .str f => if h = "app" then (match s.find? fun r => decide (r.1 = f) with
        | some r => if PyData.eqvAll ss (r.2.1.map .str) then .str r.2.2 else .none
        | none => .none) else .none
      | _ => .none
    | none => .none
  | _ => .none
def parts (s : Sg) : D → Option (List D)
  | .tuple xs => some (srtAll s xs)
  | _ => none
def srtAll (s : Sg) : List D → List D
  | [] => []
  | x :: xs => srt s x :: srtAll s xs
end
theorem srtAll_map (s : Sg) : ∀ xs, srtAll s xs = xs.map (srt s)
  | [] => by rw [srtAll]; rfl
  | x :: xs => by rw [srtAll, srtAll_map s xs]; rfl
theorem srt_kind (s : Sg) (d : D) : srt s d = .none ∨ ∃ x, srt s d = .str x := by
  cases d with
  | tuple xs =>
    rw [srt]
    unfold srtRow
    split
    · split
      · rename_i h b c e
        by_cases v : isVar s b c = true
        · rw [if_pos v]
          cases c with
          | str z => exact .inr ⟨_, rfl⟩
          | _ => simp [isVar, isStr] at v
        · rw [if_neg v]; exact .inl rfl
      · split
        · split
          · split
            · split
              · split
                · exact .inr ⟨_, rfl⟩
                · exact .inl rfl
              · exact .inl rfl
            · exact .inl rfl
          · exact .inl rfl
        · exact .inl rfl
    · exact .inl rfl
  | _ =>
    rw [srt]
    · exact .inl rfl
    · simp
theorem c12 {s : Sg} (hs : Sm s) : ∀ (n : Nat) (d : D), d.depth ≤ n → ∀ {k : Nat} (hk : n + 3 ≤ k) (st : List Ob), calls tb k 11 [.d (sgD s), .d d] st = .ok (.d (srt s d)) st := by
  intro n
  induction n using Nat.strongRecOn with
  | _ n ih =>
  intro d hd k hk st
  rw [calls_at (by omega) (fd := f11) rfl]
  refine callF_d rfl rfl ?_
  show exSs (calls tb (k - 1)) f11.body [some (.d (sgD s)), some (.d d), none, none, none] st = _
  have h1 : ∀ st, calls tb (k - 1) 0 [.d d, .d (.int 3)] st = .ok (.d (.bool (isRow 3 d))) st := fun st => c1 (k := k - 1) (by omega) d 3 st
  cases hr : isRow 3 d with
  | false =>
    have e : srt s d = .none := by
      cases d with
      | tuple xs =>
        rw [srt]
        unfold srtRow
        split
        · simp [isRow] at hr
        · rfl
      | _ => rw [srt]; simp
    simp [f11, h1, hr, e]
  | true =>
    obtain ⟨a, b, c, rfl⟩ := isRow3 hr
    cases a with
    | str h =>
      by_cases hv : h = "var"
      · subst hv
        have h11 : ∀ st, calls tb (k - 1) 10 [.d (sgD s), .d (.tuple [.str "var", b, c])] st = .ok (.d (.bool (isVar s b c))) st := fun st => c11 (by omega) hs b c st
        cases hb : isVar s b c <;> simp [f11, h1, hr, primF, idx3_0, idx3_1, idx3_2, isaD, cmpF, h11, hb, srt, srtRow]
      · by_cases ha : h = "app"
        · subst ha
          cases b with
          | str f =>
            cases c with
            | tuple ps =>
              have h5 : ∀ st, calls tb (k - 1) 4 [.d (sgD s), .d (.str f)] st = .ok (.d (orN (s.find? fun r => decide (r.1 = f)))) st := fun st => c5 (by omega) s f st
              cases e : s.find? fun r => decide (r.1 = f) with
              | none => simp [f11, h1, hr, primF, idx3_0, idx3_1, idx3_2, isaD, cmpF, h5, e, orN, srt, srtRow, parts, hv]
              | some r =>
                have hd' : PyData.depthAll ps + 2 ≤ n := by
                  simp [PyData.depth, PyData.depthAll] at hd
                  omega
                by_cases hl : r.2.1.length = ps.length
                · have w : ∀ (v : Option R) st, evE (calls tb (k - 1)) (.prim .all (.cons (.comp (.cmp .eq (.call 11 (.cons (.var 0) (.cons (.var 3) .nil))) (.var 4)) (.tup [3, 4]) (.zip (.prim .idx (.cons (.var 1) (.cons (.dat (.int 2)) .nil))) (.prim .idx (.cons (.var 2) (.cons (.dat (.int 1)) .nil)))) .no [3, 4]) .nil)) [some (.d (sgD s)), some (.d (.tuple [.str "app", .str f, .tuple ps])), some (.d (rowD r)), none, none] st = .ok (.d (.bool (PyData.eqvAll (ps.map (srt s)) (r.2.1.map .str)))) st := fun v st => by
                    rw [← zip_all (srt s) hl.symm]
                    refine allcomp (l := ps.zip r.2.1) (F := fun p => .tuple [p.1, .str p.2]) (g := none) ?_ fun p hp => ⟨_, rfl, ?_⟩
                    · simp [evI, primF, idx3_2, zipOk_r]
                      rw [List.zip, List.map_zipWith]
                      rw [List.zipWith_map_right]
                    · have hm := depth_mem (List.of_mem_zip hp).1
                      have h12 : ∀ st, calls tb (k - 1) 11 [.d (sgD s), .d p.1] st = .ok (.d (srt s p.1)) st := fun st => ih (n - 1) (by omega) p.1 (by omega) (by omega) st
                      simp [wipeE, setAll, h12, cmpF]
                  cases he : PyData.eqvAll (ps.map (srt s)) (r.2.1.map .str) <;> simp [f11, h1, hr, primF, idx3_0, idx3_1, idx3_2, isaD, cmpF, h5, e, orN, srt, srtRow, parts, hv, srtAll_map, hl, w none, he]
                · have e2 : PyData.eqvAll (ps.map (srt s)) (r.2.1.map .str) = false := eqvAll_len (by simpa using fun e => hl e.symm)
                  have hl' : ¬ ((r.2.1.length : Int) = ps.length) := by omega
                  simp [f11, h1, hr, primF, idx3_0, idx3_1, idx3_2, isaD, cmpF, h5, e, orN, srt, srtRow, parts, hv, srtAll_map, e2, hl']
            | _ => simp [f11, h1, hr, primF, idx3_0, idx3_1, idx3_2, isaD, cmpF, srt, srtRow, parts, hv]
          | _ => simp [f11, h1, hr, primF, idx3_0, idx3_1, idx3_2, isaD, cmpF, srt, srtRow, hv] <;> (cases parts s c <;> rfl)
        · simp [f11, h1, hr, primF, idx3_0, idx3_1, idx3_2, isaD, cmpF, srt, srtRow, hv, ha]
          cases parts s c with
          | none => rfl
          | some ss => cases b <;> rfl
    | _ => simp [f11, h1, hr, primF, idx3_0, idx3_1, idx3_2, isaD, cmpF, srt, srtRow]
end K02

namespace K02
open PySem Ev Hd Pl
/-! ### places -/
mutual
def plc : Tm → List (List Nat)
  | .var _ _ => [[]]
  | .app _ ts => [] :: plcs 0 ts
def plcs (k : Nat) : List Tm → List (List Nat)
  | [] => []
  | t :: ts => (plc t).map (k :: ·) ++ plcs (k + 1) ts
end
mutual
theorem plc_len : ∀ t : Tm, (plc t).length = t.size
  | .var _ _ => by rw [plc, Tm.size]; rfl
  | .app _ ts => by rw [plc, Tm.size, List.length_cons, plcs_len 0 ts]; omega
theorem plcs_len : ∀ (k : Nat) (ts : List Tm), (plcs k ts).length = sizes ts
  | k, [] => by rw [plcs, sizes]; rfl
  | k, t :: ts => by rw [plcs, sizes, List.length_append, List.length_map, plc_len t, plcs_len (k + 1) ts]
end
mutual
theorem plc_dep : ∀ (t : Tm) (p : List Nat), p ∈ plc t → p.length < t.dep
  | .var _ _, p, h => by
    rw [plc] at h
    rw [Tm.dep]
    simp at h
    simp [h]
  | .app _ ts, p, h => by
    rw [plc] at h
    rw [Tm.dep]
    rcases List.mem_cons.mp h with rfl | h
    · simp; omega
    · have := plcs_dep 0 ts p h
      omega
theorem plcs_dep : ∀ (k : Nat) (ts : List Tm) (p : List Nat), p ∈ plcs k ts → p.length ≤ deps ts
  | k, [], p, h => by simp [plcs] at h
  | k, t :: ts, p, h => by
    rw [plcs, List.mem_append] at h
    rw [deps]
    rcases h with h | h
    · obtain ⟨q, hq, rfl⟩ := List.mem_map.mp h
      have := plc_dep t q hq
      simp
      omega
    · have := plcs_dep (k + 1) ts p h
      omega
end
theorem dep_le_size : ∀ t : Tm, t.dep ≤ t.size := by
  intro t
  induction t using Tm.ind with
  | hv x s => rw [Tm.dep, Tm.size]; omega
  | ha f ts ih =>
    rw [Tm.dep, Tm.size]
    have : ∀ us : List Tm, (∀ u ∈ us, u.dep ≤ u.size) → deps us ≤ sizes us := by
      intro us
      induction us with
      | nil => intro _; rw [deps, sizes]; omega
      | cons u us ih =>
        intro h
        have h1 := h u (by simp)
        have h2 := ih fun v hv => h v (by simp [hv])
        rw [deps, sizes]
        omega
    have := this ts ih
    omega
def plD (p : List Nat) : D := .tuple (p.map fun (n : Nat) => PyData.int (n : Int))
/-- numbered from k on -/
def numb {α β : Type} (G : Nat → α → β) : Nat → List α → List β
  | _, [] => []
  | k, x :: xs => G k x :: numb G (k + 1) xs
theorem zip_numb {α β : Type} (G : Nat → α → β) : ∀ (xs : List α) (k : Nat), (List.range' k xs.length).zipWith G xs = numb G k xs
  | [], k => by simp [numb]
  | x :: xs, k => by
    rw [List.length_cons, List.range'_succ, List.zipWith_cons_cons, zip_numb G xs (k + 1)]
    rfl
theorem evI_enum {Φ : Calls} {env : Envr} {st : List Ob} {e : E} {α : Type} {F : α → D} {l : List α} (h : evE Φ e env st = .ok (.d (.tuple (l.map F))) st) : evI Φ (.enum e) env st = .ok (numb (fun k a => PyData.tuple [.int (k : Int), F a]) 0 l, none) st := by
  have e1 : evI Φ (.enum e) env st = .ok ((List.range (l.map F).length).zipWith (fun (k : Nat) (x : D) => PyData.tuple [.int k, x]) (l.map F), none) st := by
    rw [evI, h] <;> rfl
  rw [e1, List.length_map, List.range_eq_range', ← zip_numb, List.zipWith_map_right]
theorem get_last (st : List Ob) (b : Ob) : (st ++ [b])[st.length]? = some b := by simp
theorem set_last (st : List Ob) (b b' : Ob) : (st ++ [b]).set st.length b' = st ++ [b'] := by simp
/-! ### at a place -/
def atP : Tm → List Nat → Option Tm
  | t, [] => some t
  | .var _ _, _ :: _ => none
  | .app _ ts, k :: p => match ts[k]? with
    | some u => atP u p
    | none => none
theorem at_loop (Φ : Calls) (st : List Ob) (x : R) : ∀ (p : List Nat) (t u : Tm) (v : Option R), atP t p = some u → ∃ v', loopS (forB Φ (.name 2) (.cons (.asg 0 (.prim .idx (.cons (.prim .idx (.cons (.var 0) (.cons (.dat (.int 2)) .nil))) (.cons (.var 2) .nil)))) .nil)) none (p.map fun (n : Nat) => PyData.int (n : Int)) [some (.d (tmD t)), some x, v] st = .next [some (.d (tmD u)), some x, v'] st
  | [], t, u, v, h => by
    rw [atP] at h
    cases h
    exact ⟨v, by simp⟩
  | k :: p, .var _ _, u, v, h => by simp [atP] at h
  | k :: p, .app f ts, u, v, h => by
    rw [atP] at h
    cases e : ts[k]? with
    | none => rw [e] at h; simp at h
    | some w =>
      rw [e] at h
      obtain ⟨v', e'⟩ := at_loop Φ st x p w u (some (.d (.int k))) h
      refine ⟨v', ?_⟩
      rw [List.map_cons, loopS_next (env' := [some (.d (tmD w)), some x, some (.d (.int k))]) (st' := st), e']
      · rw [forB_eq (env' := [some (.d (tmD (.app f ts))), some x, some (.d (.int k))]) rfl]
        obtain ⟨hl, rfl⟩ := List.getElem?_eq_some_iff.mp e
        have hi : L2.atI (ts.map tmD) (k : Int) = some (tmD ts[k]) := by simp [L2.atI, L2.ixN, hl]
        simp [primF]
        simp [idxF, idxS, hi]
      · exact same_none _ _
/-! ### put at a place -/
def withP : Tm → List Nat → Tm → Tm
  | _, [], u => u
  | .var x s, _ :: _, _ => .var x s
  | .app f ts, k :: p, u => match ts[k]? with
    | some t => .app f (ts.set k (withP t p u))
    | none => .app f ts
theorem cut_nat {α : Type} (l : List α) (k : Nat) : cutL l none (some (k : Int)) = l.take k := by
  rw [cutL, HT.sIx_nat, HT.sIx_none]
  simp
theorem cut_from {α : Type} (l : List α) (k : Nat) : cutL l (some (k : Int)) none = l.drop k := by
  rw [cutL, HT.sIx_nat, HT.sIx_none]
  rcases Nat.le_total k l.length with h | h
  · rw [Nat.min_eq_left h]
    exact List.take_of_length_le (by simp)
  · rw [Nat.min_eq_right h, List.drop_length, List.drop_of_length_le h]
    simp
theorem set_cut {α : Type} (l : List α) (k : Nat) (x : α) (h : k < l.length) : l.take k ++ ([x] ++ l.drop (k + 1)) = l.set k x := by
  rw [List.set_eq_take_append_cons_drop, if_pos h]
  rfl
@[simp] theorem idx_pl0 (n : Nat) (p : List Nat) (st : List Ob) : idxF (.d (plD (n :: p))) (.d (.int 0)) st = .ok (.d (.int n)) st := by
  simp [idxF, idxS, plD, L2.atI, L2.ixN]
@[simp] theorem slc_pl1 (n : Nat) (p : List Nat) (st : List Ob) : slcF (.d (plD (n :: p))) (some 1) none st = .ok (.d (plD p)) st := by
  simp [slcF, plD, cut1]
theorem idx_nat {l : List D} {n : Nat} {x : D} (h : l[n]? = some x) (st : List Ob) : idxF (.d (.tuple l)) (.d (.int n)) st = .ok (.d x) st := by
  obtain ⟨hl, rfl⟩ := List.getElem?_eq_some_iff.mp h
  have hi : L2.atI l (n : Int) = some l[n] := by simp [L2.atI, L2.ixN, hl]
  simp [idxF, idxS, hi]
theorem plD_nil (n : Nat) (p : List Nat) : PyData.eqv (plD (n :: p)) (.tuple []) = false := by simp [plD]
end K02

namespace K02
open PySem Ev Hd Pl
theorem sizes_mem : ∀ (us : List Tm), us.length ≤ sizes us ∧ ∀ x ∈ us, x.size ≤ sizes us := by
  intro us
  induction us with
  | nil => simp [sizes]
  | cons x us ih =>
    have := size_pos x
    rw [sizes]
    refine ⟨by simp; omega, fun y hy => ?_⟩
    rcases List.mem_cons.mp hy with rfl | hy
    · omega
    · have := ih.2 y hy
      omega
/-! ### what fits -/
def fitsI : Tm → List Int → Bool
  | _, [] => true
  | .var _ _, _ :: _ => false
  | .app _ ts, i :: is => if 0 ≤ i then (match ts[i.toNat]? with
    | some u => fitsI u is
    | none => false) else false
theorem fits_loop (Φ : Calls) (st : List Ob) (x : R) : ∀ (is : List Int) (t : Tm) (v : Option R), ∃ env', loopS (forB Φ (.name 2) (.cons (.ite (.orE (.cmp .eq (.prim .idx (.cons (.var 0) (.cons (.dat (.int 0)) .nil))) (.dat (.str "var"))) (.notE (.chain .le .lt (.dat (.int 0)) (.var 2) (.prim .len (.cons (.prim .idx (.cons (.var 0) (.cons (.dat (.int 2)) .nil))) .nil))))) (.cons (.ret (.dat (.bool false))) .nil) .nil) (.cons (.asg 0 (.prim .idx (.cons (.prim .idx (.cons (.var 0) (.cons (.dat (.int 2)) .nil))) (.cons (.var 2) .nil)))) .nil))) none (is.map PyData.int) [some (.d (tmD t)), some x, v] st = if fitsI t is then .next env' st else .ret (.d (.bool false)) st
  | [], t, v => ⟨[some (.d (tmD t)), some x, v], by simp [fitsI]⟩
  | i :: is, .var a b, v => by
    refine ⟨[], ?_⟩
    rw [List.map_cons, loopS_ret (r := .d (.bool false)) (st' := st)]
    · simp [fitsI]
    · rw [forB_eq (env' := [some (.d (tmD (.var a b))), some x, some (.d (.int i))]) rfl]
      simp [primF, cmpF]
  | i :: is, .app f ts, v => by
    by_cases h0 : 0 ≤ i
    · obtain ⟨n, rfl⟩ : ∃ n : Nat, i = n := ⟨i.toNat, by omega⟩
      by_cases hl : n < ts.length
      · obtain ⟨env', e⟩ := fits_loop Φ st x is ts[n] (some (.d (.int n)))
        refine ⟨env', ?_⟩
        have hi : ∀ st, idxF (.d (.tuple (ts.map tmD))) (.d (.int n)) st = .ok (.d (tmD ts[n])) st := fun st => idx_nat (by simp [hl]) st
        rw [List.map_cons, loopS_next (env' := [some (.d (tmD ts[n])), some x, some (.d (.int n))]) (st' := st), e]
        · simp [fitsI, hl]
        · rw [forB_eq (env' := [some (.d (tmD (.app f ts))), some x, some (.d (.int n))]) rfl]
          simp [primF, cmpF, hi, var_ne_app, ltD, cmpOk, hl]
        · exact same_none _ _
      · refine ⟨[], ?_⟩
        rw [List.map_cons, loopS_ret (r := .d (.bool false)) (st' := st)]
        · simp [fitsI, hl]
        · rw [forB_eq (env' := [some (.d (tmD (.app f ts))), some x, some (.d (.int n))]) rfl]
          simp [primF, cmpF, var_ne_app, ltD, cmpOk, hl]
    · refine ⟨[], ?_⟩
      rw [List.map_cons, loopS_ret (r := .d (.bool false)) (st' := st)]
      · simp [fitsI, h0]
      · rw [forB_eq (env' := [some (.d (tmD (.app f ts))), some x, some (.d (.int i))]) rfl]
        simp [primF, cmpF, var_ne_app, ltD, cmpOk, h0]
@[simp] theorem isInt_int (i : Int) : Ev.isInt (.int i) = true := rfl
theorem map_ints {ds : List D} (h : ds.all Ev.isInt = true) : ∃ is : List Int, ds = is.map PyData.int := by
  induction ds with
  | nil => exact ⟨[], rfl⟩
  | cons d ds ih =>
    rw [List.all_cons, Bool.and_eq_true] at h
    obtain ⟨is, rfl⟩ := ih h.2
    cases d with
    | int i => exact ⟨i :: is, rfl⟩
    | _ => exact absurd h.1 (by simp [Ev.isInt])
def intsOf : List D → List Int := fun ds => ds.map theInt
/-- what fits: a tuple of ints that lead on -/
def fitsD (t : Tm) : D → Bool
  | .tuple ds => ds.all Ev.isInt && fitsI t (intsOf ds)
  | _ => false
theorem all_isInt (is : List Int) : (is.map PyData.int).all Ev.isInt = true := by
  induction is with
  | nil => rfl
  | cons i is ih => rw [List.map_cons, List.all_cons, ih]; rfl
theorem intsOf_map (is : List Int) : intsOf (is.map PyData.int) = is := by
  induction is with
  | nil => rfl
  | cons i is ih => rw [intsOf, List.map_cons, List.map_cons]; exact congrArg (_ :: ·) ih
end K02

namespace K02
open PySem Ev Hd Pl
theorem ltS_trans {x y z : Str} (h1 : ltS x y = true) (h2 : ltS y z = true) : ltS x z = true := by
  simp only [ltS, decide_eq_true_eq] at *
  exact List.lt_trans h1 h2
theorem ltS_irrefl (x : Str) : ltS x x = false := by
  simp only [ltS, decide_eq_false_iff_not]
  exact List.lt_irrefl _
def rowOk (r : Row) : Bool := isWord (.str r.1) && (isWord (.str r.2.2) && r.2.1.all fun x => isWord (.str x))
theorem c9 {k : Nat} (hk : 1 < k) (r : Row) (st : List Ob) : calls tb k 8 [.d (rowD r)] st = .ok (.d (.bool (rowOk r))) st := by
  rw [calls_at (by omega) (fd := f8) rfl]
  refine callF_d rfl rfl ?_
  show exSs (calls tb (k - 1)) f8.body [some (.d (rowD r)), none] st = _
  have h1 : ∀ st, calls tb (k - 1) 0 [.d (rowD r), .d (.int 3)] st = .ok (.d (.bool true)) st := fun st => c1 (k := k - 1) (by omega) (rowD r) 3 st
  have h2 : ∀ x st, calls tb (k - 1) 1 [.d (.str x)] st = .ok (.d (.bool (isWord (.str x)))) st := fun x st => c2 (k := k - 1) (by omega) (.str x) st
  have w : ∀ st, evE (calls tb (k - 1)) (.prim .all (.cons (.comp (.call 1 (.cons (.var 1) .nil)) (.name 1) (.of (.prim .idx (.cons (.var 0) (.cons (.dat (.int 1)) .nil)))) .no [1]) .nil)) [some (.d (rowD r)), none] st = .ok (.d (.bool (r.2.1.all fun x => isWord (.str x)))) st := fun st => by
    refine allcomp (l := r.2.1) (F := PyData.str) (g := none) (evI_tuple (by simp [primF])) fun x _ => ⟨_, rfl, ?_⟩
    simp [wipeE, h2]
  cases ha : isWord (.str r.1) with
  | false => simp [f8, h1, h2, ha, rowOk, primF]
  | true => cases hb : isWord (.str r.2.2) with
    | false => simp [f8, h1, h2, ha, hb, rowOk, primF]
    | true =>
      simp [f8, h1, h2, ha, hb, rowOk, w, primF, isaD]
/-! ### the least terms: a dict from sorts to terms -/
abbrev Bst := List (Str × Tm)
def entD (p : Str × Tm) : D × D := (.str p.1, .tuple [.int (p.2.size : Int), tmD p.2])
def lk (l : Bst) (x : Str) : Option Tm := (l.find? fun p => decide (p.1 = x)).map (·.2)
theorem dget_b (l : Bst) (x : Str) : dget (l.map entD) (.str x) = (lk l x).map fun t => .tuple [.int (t.size : Int), tmD t] := by
  induction l with
  | nil => rfl
  | cons p l ih =>
    by_cases h : p.1 = x
    · simp [dget, lk, entD, h]
    · have := ih
      simp only [dget, lk, List.map_cons, List.find?_cons] at *
      simp [entD, h] at *
      simpa using this
def putB (l : Bst) (x : Str) (t : Tm) : Bst := if l.any (fun p => decide (p.1 = x)) then l.map (fun p => if p.1 = x then (p.1, t) else p) else l ++ [(x, t)]
theorem dput_b (l : Bst) (x : Str) (t : Tm) : dput (l.map entD) (.str x) (.tuple [.int (t.size : Int), tmD t]) = (putB l x t).map entD := by
  have e : ((l.map entD).any fun p => PyData.eqv p.1 (.str x)) = l.any fun p => decide (p.1 = x) := by
    induction l with
    | nil => rfl
    | cons p l ih => simp [entD] at *; rw [ih]
  rw [dput, e, putB]
  cases l.any fun p => decide (p.1 = x) with
  | true =>
    simp only [if_true, List.map_map]
    refine List.map_congr_left fun p _ => ?_
    by_cases h : p.1 = x <;> simp [entD, h]
  | false => simp [entD]
theorem lk_cons (p : Str × Tm) (l : Bst) (y : Str) : lk (p :: l) y = if p.1 = y then some p.2 else lk l y := by
  by_cases h : p.1 = y <;> simp [lk, h]
theorem lk_map (l : Bst) (x y : Str) (t : Tm) : lk (l.map fun p => if p.1 = x then (p.1, t) else p) y = if y = x then (lk l y).map (fun _ => t) else lk l y := by
  induction l with
  | nil => simp [lk]
  | cons p l ih =>
    rw [List.map_cons, lk_cons, lk_cons, ih]
    by_cases hp : p.1 = x
    · by_cases hy : y = x
      · simp [hp, hy]
      · have : ¬ x = y := fun e => hy e.symm
        simp [hp, hy, this]
    · by_cases hq : p.1 = y
      · have : ¬ y = x := fun e => hp (hq.trans e)
        simp [hp, hq, this]
      · simp [hp, hq]
theorem lk_any (l : Bst) (x : Str) : (l.any fun p => decide (p.1 = x)) = (lk l x).isSome := by
  induction l with
  | nil => rfl
  | cons p l ih =>
    rw [List.any_cons, ih, lk_cons]
    by_cases hp : p.1 = x <;> simp [hp]
theorem lk_app (l : Bst) (x y : Str) (t : Tm) : lk (l ++ [(x, t)]) y = (lk l y).or (if x = y then some t else none) := by
  induction l with
  | nil => rw [List.nil_append, lk_cons]; simp [lk]
  | cons p l ih =>
    rw [List.cons_append, lk_cons, lk_cons, ih]
    by_cases hp : p.1 = y <;> simp [hp]
theorem lk_put (l : Bst) (x y : Str) (t : Tm) : lk (putB l x t) y = if y = x then some t else lk l y := by
  rw [putB, lk_any]
  cases h : lk l x with
  | some u =>
    simp only [Option.isSome_some, if_true]
    rw [lk_map]
    by_cases hy : y = x
    · subst hy; simp [h]
    · simp [hy]
  | none =>
    rw [Option.isSome_none, if_neg (by simp), lk_app]
    by_cases hy : y = x
    · subst hy; simp [h]
    · have : ¬ x = y := fun e => hy e.symm
      simp [hy, this]
theorem put_len (l : Bst) (x : Str) (t : Tm) : (putB l x t).length ≤ l.length + 1 := by
  rw [putB]
  split <;> simp
/-- terms without variables -/
inductive Gnd : Tm → Prop
  | app {f : Str} {ts : List Tm} : (∀ t ∈ ts, Gnd t) → Gnd (.app f ts)
theorem cmp_gnd {t : Tm} (h : Gnd t) : ∀ {u : Tm}, Gnd u → cmpOk (tmD t) (tmD u) = true := by
  induction h with
  | @app f ts hts ih =>
    intro u hu
    cases hu with
    | @app g us hus =>
      have : ∀ (xs ys : List Tm), (∀ x ∈ xs, ∀ {u : Tm}, Gnd u → cmpOk (tmD x) (tmD u) = true) → (∀ y ∈ ys, Gnd y) → cmpAll (xs.map tmD) (ys.map tmD) = true := by
        intro xs
        induction xs with
        | nil => intro ys _ _; rw [List.map_nil, cmpAll]
        | cons x xs ihx =>
          intro ys h1 h2
          cases ys with
          | nil => rw [List.map_nil, List.map_cons, cmpAll]
          | cons y ys =>
            rw [List.map_cons, List.map_cons, cmpAll, h1 x (by simp) (h2 y (by simp)), ihx ys (fun z hz => h1 z (by simp [hz])) (fun z hz => h2 z (by simp [hz]))]
            rfl
      rw [tmD_app, tmD_app]
      simp [cmpOk, cmpAll, this ts us ih hus]
end K02

namespace K02
open PySem Ev Hd Pl
def argT (l : Bst) : List Str → Option (List Tm)
  | [] => some []
  | x :: xs => match lk l x, argT l xs with
    | some t, some ts => some (t :: ts)
    | _, _ => none
def lessB (t u : Tm) : Bool := ltD (.tuple [.int (t.size : Int), tmD t]) (.tuple [.int (u.size : Int), tmD u])
def stepB (l : Bst) (m : Bool) (r : Row) : Bst × Bool := match argT l r.2.1 with
  | none => (l, m)
  | some ts => match lk l r.2.2 with
    | none => (putB l r.2.2 (.app r.1 ts), true)
    | some u => if lessB (.app r.1 ts) u then (putB l r.2.2 (.app r.1 ts), true) else (l, m)
def stepsB (l : Bst) (m : Bool) : List Row → Bst × Bool
  | [] => (l, m)
  | r :: rs => stepsB (stepB l m r).1 (stepB l m r).2 rs
/-- entries that can be walked: ground terms not too deep -/
def Bo (n : Nat) (l : Bst) : Prop := ∀ x t, lk l x = some t → Gnd t ∧ t.dep ≤ n
theorem argT_all (l : Bst) (xs : List Str) : (xs.all fun x => (lk l x).isSome) = (argT l xs).isSome := by
  induction xs with
  | nil => rfl
  | cons x xs ih =>
    rw [List.all_cons, ih, argT]
    cases lk l x <;> cases argT l xs <;> rfl
theorem argT_get {l : Bst} {xs : List Str} {ts : List Tm} (h : argT l xs = some ts) : (xs.map fun x => tmD ((lk l x).getD (.var Str.empty Str.empty))) = ts.map tmD ∧ ∀ t ∈ ts, ∃ x, lk l x = some t := by
  induction xs generalizing ts with
  | nil => rw [argT] at h; cases h; exact ⟨rfl, by simp⟩
  | cons x xs ih =>
    rw [argT] at h
    cases h1 : lk l x with
    | none => rw [h1] at h; simp at h
    | some t =>
      cases h2 : argT l xs with
      | none => rw [h1, h2] at h; simp at h
      | some us =>
        rw [h1, h2] at h
        cases h
        obtain ⟨i1, i2⟩ := ih h2
        refine ⟨by simp [h1, i1], fun u hu => ?_⟩
        rcases List.mem_cons.mp hu with rfl | hu
        · exact ⟨x, h1⟩
        · exact i2 u hu
theorem argT_len {l : Bst} {xs : List Str} {ts : List Tm} (h : argT l xs = some ts) : ts.length = xs.length := by
  have := congrArg List.length (argT_get h).1
  simpa using this.symm
theorem deps_le {n : Nat} : ∀ {ts : List Tm}, (∀ t ∈ ts, t.dep ≤ n) → deps ts ≤ n
  | [], _ => by rw [deps]; omega
  | t :: ts, h => by
    rw [deps]
    exact Nat.max_le.mpr ⟨h t (by simp), deps_le fun u hu => h u (by simp [hu])⟩
theorem new_ok {n : Nat} {l : Bst} (h : Bo n l) {f : Str} {xs : List Str} {ts : List Tm} (e : argT l xs = some ts) : Gnd (.app f ts) ∧ (Tm.app f ts).dep ≤ n + 1 := by
  have h2 := (argT_get e).2
  refine ⟨.app fun t ht => ?_, ?_⟩
  · obtain ⟨x, hx⟩ := h2 t ht
    exact (h x t hx).1
  · rw [Tm.dep]
    have := deps_le (n := n) fun t ht => by
      obtain ⟨x, hx⟩ := h2 t ht
      exact (h x t hx).2
    omega
theorem Bo.mono {m n : Nat} {l : Bst} (h : Bo m l) (hm : m ≤ n) : Bo n l := fun x t e => ⟨(h x t e).1, Nat.le_trans (h x t e).2 hm⟩
theorem Bo.put {n : Nat} {l : Bst} (h : Bo n l) {x : Str} {t : Tm} (g : Gnd t) (d : t.dep ≤ n) : Bo n (putB l x t) := fun y u e => by
  rw [lk_put] at e
  by_cases hy : y = x
  · rw [if_pos hy] at e
    cases e
    exact ⟨g, d⟩
  · rw [if_neg hy] at e
    exact h y u e
theorem step_ok {n : Nat} {l : Bst} (h : Bo n l) (m : Bool) (r : Row) : Bo (n + 1) (stepB l m r).1 ∧ (stepB l m r).1.length ≤ l.length + 1 := by
  rw [stepB]
  cases e : argT l r.2.1 with
  | none => exact ⟨h.mono (by omega), by simp⟩
  | some ts =>
    obtain ⟨g, d⟩ := new_ok h (f := r.1) e
    have hp := put_len l r.2.2 (.app r.1 ts)
    cases hl : lk l r.2.2 with
    | none => exact ⟨(h.mono (by omega)).put g d, hp⟩
    | some u =>
      show Bo (n + 1) (if lessB (.app r.1 ts) u = true then (putB l r.2.2 (.app r.1 ts), true) else (l, m)).1 ∧ _
      cases hb : lessB (.app r.1 ts) u with
      | true => exact ⟨(h.mono (by omega)).put g d, by simpa [hb] using hp⟩
      | false => exact ⟨h.mono (by omega), by simp [hb]⟩
theorem depth_tm (t : Tm) : PyData.depth (tmD t) ≤ 2 * t.dep := by
  induction t using Tm.ind with
  | hv x s => rw [tmD_var, Tm.dep]; simp [PyData.depth, PyData.depthAll]
  | ha f ts ih =>
    rw [tmD_app, Tm.dep]
    have : PyData.depthAll (ts.map tmD) ≤ 2 * deps ts := depthAll_le fun x hx => by
      obtain ⟨t, ht, rfl⟩ := List.mem_map.mp hx
      have := ih t ht
      have := dep_mem ht
      omega
    simp [PyData.depth, PyData.depthAll]
    omega
/-- the inner walk's body, as the table has it -/
def lb : Ss := (.cons (.ite (.prim .all (.cons (.comp (.cmp .isin (.var 6) (.var 1)) (.name 6) (.of (.var 4)) .no [6]) .nil)) (.cons (.asg 7 (.tup (.cons (.dat (.str "app")) (.cons (.var 3) (.cons (.prim .tuple (.cons (.comp (.prim .idx (.cons (.prim .idx (.cons (.var 1) (.cons (.var 6) .nil))) (.cons (.dat (.int 1)) .nil))) (.name 6) (.of (.var 4)) .no [6]) .nil)) .nil))))) (.cons (.asg 8 (.tup (.cons (.call 6 (.cons (.var 7) .nil)) (.cons (.var 7) .nil)))) (.cons (.ite (.orE (.cmp .notin (.var 5) (.var 1)) (.cmp .lt (.var 8) (.prim .idx (.cons (.var 1) (.cons (.var 5) .nil))))) (.cons (.sub (.var 1) (.var 5) (.var 8)) (.cons (.asg 2 (.dat (.bool true))) .nil)) .nil) .nil))) .nil) .nil)
theorem dicOf_last (st : List Ob) (kvs : List (D × D)) : dicOf (st ++ [.dic kvs]) (.o st.length) = some kvs := by simp [dicOf]
theorem row_step {n : Nat} {l : Bst} (h : Bo n l) (hn : n ≤ 60) (hlen : l.length ≤ 1000) (r : Row) (m : Bool) (s : D) (v7 v8 : Option R) {k : Nat} (hk : 70 ≤ k) (st : List Ob) :
    ∃ v7' v8', exSs (calls tb k) lb [some (.d s), some (.o st.length), some (.d (.bool m)), some (.d (.str r.1)), some (.d (.tuple (r.2.1.map .str))), some (.d (.str r.2.2)), none, v7, v8] (st ++ [.dic (l.map entD)])
      = .next [some (.d s), some (.o st.length), some (.d (.bool (stepB l m r).2)), some (.d (.str r.1)), some (.d (.tuple (r.2.1.map .str))), some (.d (.str r.2.2)), none, v7', v8'] (st ++ [.dic ((stepB l m r).1.map entD)]) := by
  have hd := dicOf_last st (l.map entD)
  have w1 : ∀ v7 v8, evE (calls tb k) (.prim .all (.cons (.comp (.cmp .isin (.var 6) (.var 1)) (.name 6) (.of (.var 4)) .no [6]) .nil)) [some (.d s), some (.o st.length), some (.d (.bool m)), some (.d (.str r.1)), some (.d (.tuple (r.2.1.map .str))), some (.d (.str r.2.2)), none, v7, v8] (st ++ [.dic (l.map entD)]) = .ok (.d (.bool (argT l r.2.1).isSome)) (st ++ [.dic (l.map entD)]) := fun v7 v8 => by
    rw [← argT_all]
    refine allcomp (l := r.2.1) (F := PyData.str) (g := none) (evI_tuple (by simp)) fun x _ => ⟨_, rfl, ?_⟩
    simp [wipeE, cmpF, cmpF.inF, hd, keyD, dget_b]
  cases e : argT l r.2.1 with
  | none =>
    refine ⟨v7, v8, ?_⟩
    have es : stepB l m r = (l, m) := by rw [stepB, e]
    rw [es]
    simp [lb, w1, e]
  | some ts =>
    obtain ⟨g, dp⟩ := new_ok h (f := r.1) e
    obtain ⟨ea, eb⟩ := argT_get e
    have w2 : ∀ v7 v8, evE (calls tb k) (.comp (.prim .idx (.cons (.prim .idx (.cons (.var 1) (.cons (.var 6) .nil))) (.cons (.dat (.int 1)) .nil))) (.name 6) (.of (.var 4)) .no [6]) [some (.d s), some (.o st.length), some (.d (.bool m)), some (.d (.str r.1)), some (.d (.tuple (r.2.1.map .str))), some (.d (.str r.2.2)), none, v7, v8] (st ++ [.dic (l.map entD)]) = .ok (.f (.lst (ts.map tmD))) (st ++ [.dic (l.map entD)]) := fun v7 v8 => by
      rw [← ea]
      refine cmap (l := r.2.1) (F := PyData.str) (g := none) (evI_tuple (by simp)) fun x hx => ?_
      have : (lk l x).isSome = true := by
        have := argT_all l r.2.1
        rw [e] at this
        exact List.all_eq_true.mp this x hx
      obtain ⟨t, ht⟩ := Option.isSome_iff_exists.mp this
      refine ⟨_, .d (tmD t), rfl, ?_, by simp [ht]⟩
      simp [wipeE, primF, idxF, hd, keyD, dget_b, ht, idxS, L2.atI, L2.ixN]
    have h7 : ∀ st, calls tb k 6 [.d (tmD (.app r.1 ts))] st = .ok (.d (.int (Tm.app r.1 ts).size)) st := fun st => c7 _ (by omega) st
    have et : PyData.tuple [.str "app", .str r.1, .tuple (ts.map tmD)] = tmD (.app r.1 ts) := (tmD_app _ _).symm
    refine ⟨some (.d (tmD (.app r.1 ts))), some (.d (.tuple [.int (Tm.app r.1 ts).size, tmD (.app r.1 ts)])), ?_⟩
    have hput := dput_b l r.2.2 (.app r.1 ts)
    cases hl : lk l r.2.2 with
    | none =>
      have es : stepB l m r = (putB l r.2.2 (.app r.1 ts), true) := by rw [stepB, e]; simp [hl]
      rw [es]
      have hlen' : l.length < 1000000 := by omega
      simp [lb, w1, w2, e, primF, toDs, et, h7, cmpF, cmpF.inF, hd, keyD, dget_b, hl, subF, hput, hlen']
    | some u =>
      have hlen' : l.length < 1000000 := by omega
      obtain ⟨gu, du⟩ := h _ _ hl
      have hcm : cmpOk (.tuple [.int (Tm.app r.1 ts).size, tmD (.app r.1 ts)]) (.tuple [.int u.size, tmD u]) = true := by
        simp [cmpOk, cmpAll, cmp_gnd g gu]
      have hdk : depthOk (.tuple [.int (Tm.app r.1 ts).size, tmD (.app r.1 ts)]) (.tuple [.int u.size, tmD u]) = true := dok_of (.inl (by
        have := depth_tm (.app r.1 ts)
        simp [PyData.depth, PyData.depthAll]
        omega))
      have hix : ∀ st', dicOf st' (.o st.length) = some (l.map entD) → idxF (.o st.length) (.d (.str r.2.2)) st' = .ok (.d (.tuple [.int u.size, tmD u])) st' := fun st' hh => by
        simp [idxF, hh, keyD, dget_b, hl]
      cases hb : lessB (.app r.1 ts) u with
      | true =>
        have es : stepB l m r = (putB l r.2.2 (.app r.1 ts), true) := by rw [stepB, e]; simp [hl, hb]
        rw [es]
        rw [lessB] at hb
        simp [lb, w1, w2, e, primF, toDs, et, h7, cmpF, cmpF.inF, hd, keyD, dget_b, hl, subF, hput, hlen', hix _ hd, hcm, hdk, hb]
      | false =>
        have es : stepB l m r = (l, m) := by rw [stepB, e]; simp [hl, hb]
        rw [es]
        rw [lessB] at hb
        simp [lb, w1, w2, e, primF, toDs, et, h7, cmpF, cmpF.inF, hd, keyD, dget_b, hl, subF, hput, hlen', hix _ hd, hcm, hdk, hb]
theorem rows_steps {s : D} {k : Nat} (hk : 70 ≤ k) (st : List Ob) : ∀ (rs : List Row) (n : Nat) (l : Bst) (m : Bool) (v3 v4 v5 v7 v8 : Option R), Bo n l → n + rs.length ≤ 60 → l.length + rs.length ≤ 1000 →
    ∃ v3' v4' v5' v7' v8', loopS (forB (calls tb k) (.tup [3, 4, 5]) lb) none (rs.map rowD) [some (.d s), some (.o st.length), some (.d (.bool m)), v3, v4, v5, none, v7, v8] (st ++ [.dic (l.map entD)])
      = .next [some (.d s), some (.o st.length), some (.d (.bool (stepsB l m rs).2)), v3', v4', v5', none, v7', v8'] (st ++ [.dic ((stepsB l m rs).1.map entD)])
  | [], n, l, m, v3, v4, v5, v7, v8, _, _, _ => ⟨v3, v4, v5, v7, v8, by simp [stepsB]⟩
  | r :: rs, n, l, m, v3, v4, v5, v7, v8, h, hn, hl => by
    simp at hn hl
    obtain ⟨v7', v8', e⟩ := row_step h (by omega) (by omega) r m s v7 v8 hk st
    obtain ⟨h1, h2⟩ := step_ok h m r
    obtain ⟨u3, u4, u5, u7, u8, e'⟩ := rows_steps (s := s) hk st rs (n + 1) (stepB l m r).1 (stepB l m r).2 (some (.d (.str r.1))) (some (.d (.tuple (r.2.1.map .str)))) (some (.d (.str r.2.2))) v7' v8' h1 (by omega) (by omega)
    refine ⟨u3, u4, u5, u7, u8, ?_⟩
    rw [List.map_cons, loopS_next _ (same_none _ _), e', stepsB]
    rw [forB_eq (env' := [some (.d s), some (.o st.length), some (.d (.bool m)), some (.d (.str r.1)), some (.d (.tuple (r.2.1.map .str))), some (.d (.str r.2.2)), none, v7, v8]) rfl]
    exact e
end K02

namespace K02
open PySem Ev Hd Pl
theorem lessB_size {t u : Tm} (h : t.size ≠ u.size) : lessB t u = decide (t.size < u.size) := by
  have h' : ¬ ((t.size : Int) = u.size) := by omega
  rw [lessB, ltD, ltAll]
  simp [h', ltD]
theorem lessB_con (c c' : Str) : lessB (.app c []) (.app c' []) = ltS c c' := by
  rw [lessB, ltD, ltAll, tmD_app, tmD_app]
  by_cases h : c = c'
  · subst h
    simp [Tm.size, sizes, ltAll, ltD, ltS_irrefl]
  · simp [Tm.size, sizes, ltAll, ltD, h, ltS]
theorem size_one {t : Tm} (g : Gnd t) (h : t.size = 1) : ∃ c, t = .app c [] := by
  cases g with
  | @app f ts hts =>
    rw [Tm.size] at h
    have := (sizes_mem ts).1
    have : ts = [] := List.length_eq_zero_iff.mp (by omega)
    exact ⟨f, by rw [this]⟩
/-- for each row without arguments: its sort's least term is one with no later name -/
def Inv (P : List Row) (l : Bst) : Prop := ∀ r ∈ P, r.2.1 = [] → ∃ c, lk l r.2.2 = some (.app c []) ∧ ltS r.1 c = false
theorem inv_step {n : Nat} {P : List Row} {l : Bst} (h : Bo n l) (i : Inv P l) (m : Bool) (r : Row) : Inv (r :: P) (stepB l m r).1 := by
  have old : ∀ q ∈ P, q.2.1 = [] → ∃ c, lk (stepB l m r).1 q.2.2 = some (.app c []) ∧ ltS q.1 c = false := by
    intro q hq he
    obtain ⟨c, h1, h2⟩ := i q hq he
    rw [stepB]
    cases e : argT l r.2.1 with
    | none => exact ⟨c, h1, h2⟩
    | some ts =>
      by_cases hs : q.2.2 = r.2.2
      · have hl : lk l r.2.2 = some (.app c []) := hs ▸ h1
        simp only [hl]
        cases hb : lessB (.app r.1 ts) (.app c []) with
        | false => exact ⟨c, by simpa [hs] using hl, h2⟩
        | true =>
          have hz : (Tm.app r.1 ts).size = 1 := by
            by_cases hz : (Tm.app r.1 ts).size = (Tm.app c []).size
            · rw [hz, Tm.size, sizes]
            · rw [lessB_size hz, decide_eq_true_eq, show (Tm.app c []).size = 1 by rw [Tm.size, sizes]] at hb
              have := size_pos (.app r.1 ts)
              omega
          have ht : ts = [] := by
            rw [Tm.size] at hz
            have := (sizes_mem ts).1
            exact List.length_eq_zero_iff.mp (by omega)
          subst ht
          rw [lessB_con] at hb
          refine ⟨r.1, by simp [lk_put, hs], ?_⟩
          cases hc : ltS q.1 r.1 with
          | false => rfl
          | true => rw [ltS_trans hc hb] at h2; exact h2
      · cases hl : lk l r.2.2 with
        | none => exact ⟨c, by simpa [lk_put, hs] using h1, h2⟩
        | some u =>
          simp only []
          cases hb : lessB (.app r.1 ts) u with
          | false => exact ⟨c, h1, h2⟩
          | true => exact ⟨c, by simpa [lk_put, hs] using h1, h2⟩
  intro q hq he
  rcases List.mem_cons.mp hq with rfl | hq
  · rw [stepB, he]
    have e : argT l [] = some [] := rfl
    simp only [e]
    cases hl : lk l q.2.2 with
    | none => exact ⟨q.1, by simp [lk_put], ltS_irrefl _⟩
    | some u =>
      simp only []
      cases hb : lessB (.app q.1 []) u with
      | true => exact ⟨q.1, by simp [lk_put], ltS_irrefl _⟩
      | false =>
        have hz : u.size = 1 := by
          by_cases hz : (Tm.app q.1 []).size = u.size
          · rw [← hz, Tm.size, sizes]
          · rw [lessB_size hz, decide_eq_false_iff_not, show (Tm.app q.1 []).size = 1 by rw [Tm.size, sizes]] at hb
            have := size_pos u
            omega
        obtain ⟨c, rfl⟩ := size_one (h _ _ hl).1 hz
        rw [lessB_con] at hb
        exact ⟨c, hl, hb⟩
  · exact old q hq he
theorem inv_steps : ∀ (rs P : List Row) (n : Nat) (l : Bst) (m : Bool), Bo n l → Inv P l → Inv (rs ++ P) (stepsB l m rs).1 ∧ Bo (n + rs.length) (stepsB l m rs).1 ∧ (stepsB l m rs).1.length ≤ l.length + rs.length
  | [], P, n, l, m, h, i => by simpa [stepsB] using ⟨i, h⟩
  | r :: rs, P, n, l, m, h, i => by
    obtain ⟨h1, h2⟩ := step_ok h m r
    obtain ⟨a, b, c⟩ := inv_steps rs (r :: P) (n + 1) (stepB l m r).1 (stepB l m r).2 h1 (inv_step h i m r)
    rw [stepsB]
    refine ⟨fun q hq he => a q ?_ he, ?_, by simp; omega⟩
    · simp at hq ⊢
      rcases hq with h | h | h
      · exact .inr (.inl h)
      · exact .inl h
      · exact .inr (.inr h)
    · rw [List.length_cons, show n + (rs.length + 1) = n + 1 + rs.length by omega]
      exact b
theorem fix_steps {P : List Row} {l : Bst} (i : Inv P l) : ∀ (rs : List Row), (∀ r ∈ rs, r ∈ P ∧ ∃ q ∈ P, q.2.1 = [] ∧ q.2.2 = r.2.2) → stepsB l false rs = (l, false)
  | [], _ => rfl
  | r :: rs, h => by
    obtain ⟨hr, q, hq, hq1, hq2⟩ := h r (by simp)
    obtain ⟨c, h1, h2⟩ := i q hq hq1
    rw [hq2] at h1
    have e : stepB l false r = (l, false) := by
      rw [stepB]
      cases e : argT l r.2.1 with
      | none => rfl
      | some ts =>
        simp only [h1]
        have hb : lessB (.app r.1 ts) (.app c []) = false := by
          cases ts with
          | nil =>
            have he : r.2.1 = [] := List.length_eq_zero_iff.mp (argT_len e).symm
            obtain ⟨c', h3, h4⟩ := i r hr he
            rw [h1] at h3
            cases h3
            rw [lessB_con, h4]
          | cons t ts =>
            have h1 := size_pos t
            have hz : (Tm.app r.1 (t :: ts)).size ≠ (Tm.app c []).size := by
              rw [Tm.size, Tm.size, sizes, sizes]
              omega
            rw [lessB_size hz, decide_eq_false_iff_not, Tm.size, Tm.size, sizes, sizes]
            omega
        rw [hb]
        rfl
    rw [stepsB, e]
    exact fix_steps i rs fun r' hr' => h r' (by simp [hr'])
/-- a signature with all that a drawn one has -/
structure Gs (s : Sg) : Prop extends Sm s where
  words : ∀ r ∈ s, rowOk r = true
  asc : asc (s.map (·.1)) = true
  con : ∀ x ∈ allS s, ∃ q ∈ s, q.2.1 = [] ∧ q.2.2 = x
theorem sort_mem {s : Sg} {r : Row} (h : r ∈ s) : r.2.2 ∈ allS s := List.mem_flatMap.mpr ⟨r, h, by simp⟩
/-- one turn of the while -/
def wb : Ss := (.cons (.asg 2 (.dat (.bool false))) (.cons (.for (.tup [3, 4, 5]) (.of (.var 0)) lb) .nil))
theorem turn {k : Nat} (hk : 70 ≤ k) (st : List Ob) (s : Sg) (n : Nat) (l : Bst) (m : Bool) (v3 v4 v5 v7 v8 : Option R) (h : Bo n l) (hn : n + s.length ≤ 60) (hl : l.length + s.length ≤ 1000) :
    ∃ v3' v4' v5' v7' v8', exSs (calls tb k) wb [some (.d (sgD s)), some (.o st.length), some (.d (.bool m)), v3, v4, v5, none, v7, v8] (st ++ [.dic (l.map entD)])
      = .next [some (.d (sgD s)), some (.o st.length), some (.d (.bool (stepsB l false s).2)), v3', v4', v5', none, v7', v8'] (st ++ [.dic ((stepsB l false s).1.map entD)]) := by
  obtain ⟨u3, u4, u5, u7, u8, e⟩ := rows_steps (s := sgD s) hk st s n l false v3 v4 v5 v7 v8 h hn hl
  refine ⟨u3, u4, u5, u7, u8, ?_⟩
  have hi : evI (calls tb k) (.of (.var 0)) [some (.d (sgD s)), some (.o st.length), some (.d (.bool false)), v3, v4, v5, none, v7, v8] (st ++ [.dic (l.map entD)]) = .ok (s.map rowD, none) (st ++ [.dic (l.map entD)]) := evI_tuple (by simp [sgD])
  simp [wb, hi, e]
theorem while_go {c : Envr → List Ob → Rs R} {body : Envr → List Ob → Fl} {n : Nat} {env env' : Envr} {st st' : List Ob} (h : c env st = .ok (.d (.bool true)) st) (hb : body env st = .next env' st') : whileF c body (n + 1) env st = whileF c body n env' st' := by
  rw [whileF, h]
  show (match body env st with
      | .next env' st'' => whileF c body n env' st''
      | .cont env' st'' => whileF c body n env' st''
      | .brk env' st'' => .next env' st''
      | .ret r st'' => .ret r st''
      | .exc c env' st'' => .exc c env' st''
      | .err => .err) = _
  rw [hb]
theorem while_end {c : Envr → List Ob → Rs R} {body : Envr → List Ob → Fl} {n : Nat} {env : Envr} {st : List Ob} (h : c env st = .ok (.d (.bool false)) st) : whileF c body (n + 1) env st = .next env st := by
  rw [whileF, h]
theorem c8 {k : Nat} (hk : 70 < k) {s : Sg} (g : Gs s) (st : List Ob) : ∃ l : Bst, calls tb k 7 [.d (sgD s)] st = .ok (.f (.dic (l.map entD))) st ∧ ∀ x ∈ allS s, (lk l x).isSome = true := by
  have hb0 : Bo 0 [] := fun x t e => by simp [lk] at e
  obtain ⟨i1, b1, n1⟩ := inv_steps s [] 0 [] false hb0 (fun r hr => by simp at hr)
  rw [List.append_nil] at i1
  have hs := g.rows
  refine ⟨(stepsB [] false s).1, ?_, fun x hx => ?_⟩
  · rw [calls_at (by omega) (fd := f7) rfl]
    refine callF_o (ex := []) (ex' := [.dic ((stepsB [] false s).1.map entD)]) (j := 0) (rs' := [.d (sgD s)]) (env := [some (.d (sgD s)), none, none, none, none, none, none, none, none]) rfl (by simp) rfl rfl (Nat.le_refl _) rfl ?_
    have hw : ∃ env', whileF (evE (calls tb (k - 1)) (.var 2)) (exSs (calls tb (k - 1)) wb) wfuel [some (.d (sgD s)), some (.o st.length), some (.d (.bool true)), none, none, none, none, none, none] (st ++ [.dic []]) = .next (some (.d (sgD s)) :: some (.o st.length) :: env') (st ++ [.dic ((stepsB [] false s).1.map entD)]) := by
      obtain ⟨u3, u4, u5, u7, u8, e1⟩ := turn (k := k - 1) (by omega) st s 0 [] true none none none none none hb0 (by omega) (by simp; omega)
      rw [List.map_nil] at e1
      have hv : ∀ (m : Bool) (a b c d e f : Option R) (st' : List Ob), evE (calls tb (k - 1)) (.var 2) [some (.d (sgD s)), some (.o st.length), some (.d (.bool m)), a, b, c, d, e, f] st' = .ok (.d (.bool m)) st' := fun m a b c d e f st' => by simp
      rw [show wfuel = 999998 + 1 + 1 from rfl, while_go (hv true _ _ _ _ _ _ _) e1]
      cases hm : (stepsB [] false s).2 with
      | false => exact ⟨_, while_end (hv false _ _ _ _ _ _ _)⟩
      | true =>
        have ef := fix_steps i1 s fun r hr => ⟨hr, by
          obtain ⟨q, h1, h2, h3⟩ := g.con _ (sort_mem hr)
          exact ⟨q, h1, h2, h3⟩⟩
        obtain ⟨w3, w4, w5, w7, w8, e2⟩ := turn (k := k - 1) (by omega) st s (0 + s.length) (stepsB [] false s).1 true u3 u4 u5 u7 u8 b1 (by omega) (by simp at n1; omega)
        rw [while_go (hv true _ _ _ _ _ _ _) e2, ef]
        exact ⟨_, while_end (hv false _ _ _ _ _ _ _)⟩
    obtain ⟨env', e⟩ := hw
    have ew : exS (calls tb (k - 1)) (.while (.var 2) wb) [some (.d (sgD s)), some (.o st.length), some (.d (.bool true)), none, none, none, none, none, none] (st ++ [.dic []]) = .next (some (.d (sgD s)) :: some (.o st.length) :: env') (st ++ [.dic ((stepsB [] false s).1.map entD)]) := by rw [exS]; exact e
    have ef : f7.body = .cons (.par [1, 2] (.cons .dnew (.cons (.dat (.bool true)) .nil))) (.cons (.while (.var 2) wb) (.cons (.ret (.var 1)) .nil)) := rfl
    rw [ef]
    simp [parSet, ew]
  · obtain ⟨q, h1, h2, h3⟩ := g.con x hx
    obtain ⟨c, h4, _⟩ := i1 q h1 h2
    rw [← h3, h4]
    rfl
end K02

namespace K02
open PySem Ev Hd Pl
/-- fits_signature, of a good one -/
theorem c10 {k : Nat} (hk : 71 < k) {s : Sg} (g : Gs s) (st : List Ob) : calls tb k 9 [.d (sgD s)] st = .ok (.d (.bool true)) st := by
  obtain ⟨l, h8, hl⟩ := c8 (k := k - 1) (by omega) g st
  rw [calls_at (by omega) (fd := f9) rfl]
  refine callF_x (ex := []) (ex' := [.dic (l.map entD)]) (rs' := [.d (sgD s)]) (env := [some (.d (sgD s)), none, none, none]) rfl (by simp) rfl rfl ?_
  have w1 : ∀ st, evE (calls tb (k - 1)) (.prim .all (.cons (.comp (.call 8 (.cons (.var 1) .nil)) (.name 1) (.of (.var 0)) .no [1]) .nil)) [some (.d (sgD s)), none, none, none] st = .ok (.d (.bool true)) st := fun st => by
    rw [allcomp (l := s) (F := rowD) (g := none) (p := rowOk) (evI_tuple (by simp [sgD])) fun r _ => ⟨_, rfl, ?_⟩]
    · rw [List.all_eq_true.mpr g.words]
    · simp [wipeE, c9 (k := k - 1) (by omega)]
  have w2 : ∀ st, evE (calls tb (k - 1)) (.comp (.prim .idx (.cons (.var 1) (.cons (.dat (.int 0)) .nil))) (.name 1) (.of (.var 0)) .no [1]) [some (.d (sgD s)), none, none, none] st = .ok (.f (.lst ((s.map (·.1)).map PyData.str))) st := fun st => by
    rw [List.map_map]
    refine cmap (l := s) (F := rowD) (g := none) (evI_tuple (by simp [sgD])) fun r _ => ⟨_, .d (.str r.1), rfl, ?_, rfl⟩
    simp [wipeE, primF]
  have h4 : ∀ st, calls tb (k - 1) 3 [.f (.lst ((s.map (·.1)).map PyData.str))] st = .ok (.d (.bool true)) st := fun st => by rw [c4 (by omega), g.asc]
  have h6 : ∀ st, calls tb (k - 1) 5 [.d (sgD s)] st = .ok (.d (.tuple ((setS (allS s)).map .str))) st := fun st => c6 (by omega) g.toSm st
  have w3 : evE (calls tb (k - 1)) (.prim .all (.cons (.comp (.cmp .isin (.var 3) (.var 2)) (.name 3) (.of (.call 5 (.cons (.var 0) .nil))) .no [3]) .nil)) [some (.d (sgD s)), none, some (.o st.length), none] (st ++ [.dic (l.map entD)]) = .ok (.d (.bool true)) (st ++ [.dic (l.map entD)]) := by
    have hd := dicOf_last st (l.map entD)
    rw [allcomp (l := setS (allS s)) (F := PyData.str) (g := none) (p := fun x => (lk l x).isSome) (evI_tuple (by simp [h6])) fun x _ => ⟨_, rfl, ?_⟩]
    · rw [List.all_eq_true.mpr fun x hx => hl x ((mem_setS x _).mp hx)]
    · simp [wipeE, cmpF, cmpF.inF, hd, keyD, dget_b]
  have ht : isaD st (.d (sgD s)) .tuple = true := rfl
  obtain ⟨names, hn⟩ : ∃ names, names = (s.map (·.1)).map PyData.str := ⟨_, rfl⟩
  simp only [← hn] at w2 h4
  simp [f9, w1, w2, h4, h8, w3, primF, ht]
/-- not a tuple -/
def noTup : D → Bool
  | .tuple _ => false
  | _ => true
theorem c10n {k : Nat} (hk : 0 < k) {d : D} (h : noTup d = true) (st : List Ob) : calls tb k 9 [.d d] st = .ok (.d (.bool false)) st := by
  rw [calls_at hk (fd := f9) rfl]
  refine callF_d rfl rfl ?_
  show exSs (calls tb (k - 1)) f9.body [some (.d d), none, none, none] st = _
  cases d with
  | tuple xs => simp [noTup] at h
  | _ => simp [f9, primF, isaD]
/-! ### the checks -/
theorem callF_exc {Φ : Calls} {fd : FD} {rs : List R} {st : List Ob} {c : Nat} {env env' : Envr} (hl : rs.length = fd.np) (ha : allocs rs st = (rs, st)) (hv : startE fd rs = env) (h : exSs Φ fd.body env st = .exc c env' st) : callF Φ fd rs st = .exc c st := by
  rw [callF, if_pos hl, ha]
  show (match exSs Φ fd.body (startE fd rs) st with
    | .next _ st' => handB (.d .none) st' st.length st.length
    | .ret r st' => handB r st' st.length st.length
    | .exc c _ st' => .exc c (st'.take st.length)
    | _ => .err) = _
  rw [hv, h]
  show Rs.exc c (st.take st.length) = _
  rw [List.take_length]
theorem callF_end {Φ : Calls} {fd : FD} {rs : List R} {st : List Ob} {env env' : Envr} (hl : rs.length = fd.np) (ha : allocs rs st = (rs, st)) (hv : startE fd rs = env) (h : exSs Φ fd.body env st = .next env' st) : callF Φ fd rs st = .ok (.d .none) st := by
  rw [callF, if_pos hl, ha]
  show (match exSs Φ fd.body (startE fd rs) st with
    | .next _ st' => handB (.d .none) st' st.length st.length
    | .ret r st' => handB r st' st.length st.length
    | .exc c _ st' => .exc c (st'.take st.length)
    | _ => .err) = _
  rw [hv, h]
  show Rs.ok (R.d .none) (st.take st.length) = _
  rw [List.take_length]
theorem c17 {k : Nat} (hk : 72 < k) {s : Sg} (g : Gs s) (st : List Ob) : calls tb k 16 [.d (sgD s)] st = .ok (.d .none) st := by
  rw [calls_at (by omega) (fd := f16) rfl]
  refine callF_end (env := [some (.d (sgD s))]) (env' := [some (.d (sgD s))]) rfl rfl rfl ?_
  have h : ∀ st, calls tb (k - 1) 9 [.d (sgD s)] st = .ok (.d (.bool true)) st := fun st => c10 (by omega) g st
  simp [f16, h]
theorem c17n {k : Nat} (hk : 1 < k) {d : D} (g : noTup d = true) (st : List Ob) : calls tb k 16 [.d d] st = .exc 0 st := by
  rw [calls_at (by omega) (fd := f16) rfl]
  refine callF_exc (env := [some (.d d)]) (env' := [some (.d d)]) rfl rfl rfl ?_
  have h : ∀ st, calls tb (k - 1) 9 [.d d] st = .ok (.d (.bool false)) st := fun st => c10n (by omega) g st
  simp [f16, h]
def isNoneD : D → Bool
  | .none => true
  | _ => false
theorem isNon_d (d : D) : isNon (.d d) = isNoneD d := by cases d <;> rfl
theorem c19 {k n : Nat} {s : Sg} (g : Gs s) {d : D} (hd : d.depth ≤ n) (hk : n + 4 ≤ k) (st : List Ob) : calls tb k 18 [.d (sgD s), .d d] st = if isNoneD (srt s d) then .exc 1 st else .ok (.d .none) st := by
  have h : ∀ st, calls tb (k - 1) 11 [.d (sgD s), .d d] st = .ok (.d (srt s d)) st := fun st => c12 g.toSm n d hd (by omega) st
  rw [calls_at (by omega) (fd := f18) rfl]
  cases e : isNoneD (srt s d) with
  | true =>
    refine callF_exc (env := [some (.d (sgD s)), some (.d d)]) (env' := [some (.d (sgD s)), some (.d d)]) rfl rfl rfl ?_
    simp [f18, h, cmpF, isNon_d, e]
  | false =>
    refine callF_end (env := [some (.d (sgD s)), some (.d d)]) (env' := [some (.d (sgD s)), some (.d d)]) rfl rfl rfl ?_
    simp [f18, h, cmpF, isNon_d, e]
theorem c18 {k n : Nat} {s : Sg} (g : Gs s) {d : D} (hd : d.depth ≤ n) (hk : n + 5 ≤ k) (hk2 : 73 < k) (st : List Ob) : calls tb k 17 [.d (sgD s), .d d] st = if isNoneD (srt s d) then .exc 1 st else .ok (.d .none) st := by
  have h : ∀ st, calls tb (k - 1) 16 [.d (sgD s)] st = .ok (.d .none) st := fun st => c17 (by omega) g st
  have h2 : ∀ st, calls tb (k - 1) 18 [.d (sgD s), .d d] st = if isNoneD (srt s d) then .exc 1 st else .ok (.d .none) st := fun st => c19 g hd (by omega) st
  rw [calls_at (by omega) (fd := f17) rfl]
  cases e : isNoneD (srt s d) with
  | true =>
    refine callF_exc (env := [some (.d (sgD s)), some (.d d)]) (env' := [some (.d (sgD s)), some (.d d)]) rfl rfl rfl ?_
    simp [f17, h, h2, e]
  | false =>
    refine callF_end (env := [some (.d (sgD s)), some (.d d)]) (env' := [some (.d (sgD s)), some (.d d)]) rfl rfl rfl ?_
    simp [f17, h, h2, e]
theorem c18n {k : Nat} (hk : 2 < k) {x : D} (g : noTup x = true) (d : D) (st : List Ob) : calls tb k 17 [.d x, .d d] st = .exc 0 st := by
  have h : ∀ st, calls tb (k - 1) 16 [.d x] st = .exc 0 st := fun st => c17n (by omega) g st
  rw [calls_at (by omega) (fd := f17) rfl]
  refine callF_exc (env := [some (.d x), some (.d d)]) (env' := [some (.d x), some (.d d)]) rfl rfl rfl ?_
  simp [f17, h]
end K02

namespace K02
open PySem Ev Hd Pl
/-- the sorts are alike -/
def alk (s : Sg) (d e : D) : Bool := PyData.eqv (srt s d) (srt s e)
theorem srt_dok (s : Sg) (d e : D) : depthOk (srt s d) (srt s e) = true := by
  rcases srt_kind s d with h | ⟨x, h⟩ <;> rw [h] <;> simp
/-- what a good term and a place give -/
structure Gt (s : Sg) (t : Tm) (n : Nat) : Prop where
  dep : (tmD t).depth ≤ n
  srt : isNoneD (srt s (tmD t)) = false
  size : t.size ≤ 1000
end K02

namespace K02
open PySem Ev Hd Pl
/-- a deck that has n draws left -/
def Dk (n : Nat) (b : Ob) : Prop := ∃ x y c : Int, b = .lst [.int x, .int y, .int c] ∧ 0 ≤ x ∧ 0 ≤ c ∧ c + n ≤ 2 ^ 60
theorem c25 {k : Nat} (hk : 0 < k) (cell : Int) (st : List Ob) : ∃ b, Dk (2 ^ 59) b ∧ calls tb k 23 [.d (.int cell)] st = .ok (.f b) st := by
  refine ⟨.lst [.int (if cell - 10 ^ 27 > 0 then cell - 10 ^ 27 else 0), .int ((cell * 1442695041 + 77711).fmod 2305843009213693951), .int 0], ⟨_, _, _, rfl, by split <;> omega, by decide, by decide⟩, ?_⟩
  rw [calls_at (by omega) (fd := f23) rfl]
  refine callF_n (ex := []) (ex' := []) (rs' := [.d (.int cell)]) (env := [some (.d (.int cell))]) rfl (by simp) rfl rfl ?_
  simp [f23, primF, intF, mulF, addF, toDs]
theorem idx_o {st : List Ob} {i j : Nat} {xs : List D} {d : D} (hs : st[i]? = some (.lst xs)) (hx : xs[j]? = some d) : idxF (.o i) (.d (.int j)) st = .ok (.d d) st := by
  obtain ⟨hl, rfl⟩ := List.getElem?_eq_some_iff.mp hx
  have hi : L2.atI xs (j : Int) = some xs[j] := by simp [L2.atI, L2.ixN, hl]
  simp only [idxF, dicOf, hs, idxS, seqOf, lstOf, hi]
theorem sub_o {st : List Ob} {i j : Nat} {xs : List D} {d : D} (hs : st[i]? = some (.lst xs)) (hl : j < xs.length) : subF (.o i) (.d (.int j)) (.d d) st = some (st.set i (.lst (xs.set j d))) := by
  simp [subF, toD, hs, hl]
/-- the draw -/
theorem c26 {k : Nat} (hk : 0 < k) {n i : Nat} {b : Ob} {many : Int} (h0 : 0 < many) (h1 : many < 1000000) (st : List Ob) (hs : st[i]? = some b) (hb : Dk (n + 1) b) :
    ∃ (v : Int) (b' : Ob), 0 ≤ v ∧ v < many ∧ Dk n b' ∧ calls tb k 24 [.o i, .d (.int many)] st = .ok (.d (.int v)) (st.set i b') := by
  obtain ⟨x, y, c, rfl, hx, hc, hn⟩ := hb
  have hz : ∀ b, (st.set i b)[i]? = some b := fun b => List.getElem?_set_self (lt_of_get hs)
  have hm : many ≠ 0 := by omega
  have hab : many.natAbs < 1073741824 := by omega
  have hc1 : -18446744073709551616 < c + 1 ∧ c + 1 < 18446744073709551616 := by omega
  have a2 : idxF (.o i) (.d (.int 2)) st = .ok (.d (.int c)) st := idx_o (j := 2) hs rfl
  have s2 : subF (.o i) (.d (.int 2)) (.d (.int (c + 1))) st = some (st.set i (.lst [.int x, .int y, .int (c + 1)])) := sub_o (j := 2) hs (by simp)
  have b0 := idx_o (j := 0) (hz (.lst [.int x, .int y, .int (c + 1)])) rfl
  have b1 := idx_o (j := 1) (hz (.lst [.int x, .int y, .int (c + 1)])) rfl
  have b2 := idx_o (j := 2) (hz (.lst [.int x, .int y, .int (c + 1)])) rfl
  rw [calls_at (by omega) (fd := f24) rfl]
  by_cases hp : 0 < x
  · refine ⟨x.fmod many, .lst [.int (x.fdiv many), .int y, .int (c + 1)], Int.fmod_nonneg_of_pos _ h0, Int.fmod_lt_of_pos _ h0, ⟨_, _, _, rfl, Int.fdiv_nonneg hx (by omega), by omega, by omega⟩, ?_⟩
    have t0 := sub_o (j := 0) (d := .int (x.fdiv many)) (hz (.lst [.int x, .int y, .int (c + 1)])) (by simp)
    refine callF_x (ex := []) (ex' := []) (rs' := [.o i, .d (.int many)]) (env := [some (.o i), some (.d (.int many)), none]) rfl (by simp) rfl (by simp) ?_
    simp at b0 b1 b2 t0
    simp [f24, primF, a2, s2, b0, b1, b2, t0, addF, cmpF, hp, intF, hm, hab]
  · have t1 := sub_o (j := 1) (d := .int ((y * 3935559000 + (c + 1) * (c + 1) * 10007 + 58111).fmod 2305843009213693951)) (hz (.lst [.int x, .int y, .int (c + 1)])) (by simp)
    have u1 := idx_o (j := 1) (hz (.lst [.int x, .int ((y * 3935559000 + (c + 1) * (c + 1) * 10007 + 58111).fmod 2305843009213693951), .int (c + 1)])) rfl
    refine ⟨((((y * 3935559000 + (c + 1) * (c + 1) * 10007 + 58111).fmod 2305843009213693951).fdiv 131072).fmod many), .lst [.int x, .int ((y * 3935559000 + (c + 1) * (c + 1) * 10007 + 58111).fmod 2305843009213693951), .int (c + 1)], Int.fmod_nonneg_of_pos _ h0, Int.fmod_lt_of_pos _ h0, ⟨_, _, _, rfl, hx, by omega, by omega⟩, ?_⟩
    refine callF_x (ex := []) (ex' := []) (rs' := [.o i, .d (.int many)]) (env := [some (.o i), some (.d (.int many)), none]) rfl (by simp) rfl (by simp) ?_
    simp at b0 b1 b2 t1 u1
    simp [f24, primF, a2, s2, b0, b1, b2, t1, u1, addF, cmpF, hp, intF, mulF, hm, hab, hc1]
/-! ### picks -/
theorem get_app {st : List Ob} {i : Nat} {b : Ob} (h : st[i]? = some b) (l : List Ob) : (st ++ l)[i]? = some b := by
  rw [List.getElem?_append_left (lt_of_get h), h]
theorem set_app {st : List Ob} {i : Nat} {b : Ob} (h : st[i]? = some b) (b' : Ob) (l : List Ob) : (st ++ l).set i b' = st.set i b' ++ l := List.set_append_left _ _ (lt_of_get h)
theorem set_get_ne {st : List Ob} {i j : Nat} (h : i ≠ j) (b : Ob) : (st.set i b)[j]? = st[j]? := List.getElem?_set_ne h
/-- from a list of the store -/
theorem c27o {k : Nat} (hk : 1 < k) {n i j : Nat} {b : Ob} {xs : List D} (hx : xs ≠ []) (hl : xs.length < 1000000) (st : List Ob) (hs : st[i]? = some b) (hb : Dk (n + 1) b) (hj : st[j]? = some (.lst xs)) (hij : i ≠ j) :
    ∃ (x : D) (b' : Ob), x ∈ xs ∧ Dk n b' ∧ calls tb k 25 [.o i, .o j] st = .ok (.d x) (st.set i b') := by
  have hp : 0 < xs.length := List.length_pos_iff.mpr hx
  obtain ⟨v, b', h1, h2, h3, h4⟩ := c26 (k := k - 1) (by omega) (many := xs.length) (by omega) (by omega) st hs hb
  obtain ⟨m, rfl⟩ : ∃ m : Nat, v = m := ⟨v.toNat, by omega⟩
  have hm : m < xs.length := by omega
  refine ⟨xs[m], b', List.getElem_mem hm, h3, ?_⟩
  have hix : idxF (.o j) (.d (.int m)) (st.set i b') = .ok (.d xs[m]) (st.set i b') := idx_o (j := m) ((set_get_ne hij b').trans hj) (List.getElem?_eq_getElem hm)
  have hlen : lenOf st (.o j) = some xs.length := by simp [lenOf, seqOf, lstOf, hj]
  rw [calls_at (by omega) (fd := f25) rfl]
  refine callF_x (ex := []) (ex' := []) (rs' := [.o i, .o j]) (env := [some (.o i), some (.o j)]) rfl (by simp) rfl (by simp) ?_
  simp [f25, primF, hlen, h4, hix]
/-- from a list just made -/
theorem c27f {k : Nat} (hk : 1 < k) {n i : Nat} {b : Ob} {xs : List D} (hx : xs ≠ []) (hl : xs.length < 1000000) (st : List Ob) (hs : st[i]? = some b) (hb : Dk (n + 1) b) :
    ∃ (x : D) (b' : Ob), x ∈ xs ∧ Dk n b' ∧ calls tb k 25 [.o i, .f (.lst xs)] st = .ok (.d x) (st.set i b') := by
  have hp : 0 < xs.length := List.length_pos_iff.mpr hx
  have hi := lt_of_get hs
  obtain ⟨v, b', h1, h2, h3, h4⟩ := c26 (k := k - 1) (by omega) (many := xs.length) (by omega) (by omega) (st ++ [.lst xs]) (get_app hs _) hb
  obtain ⟨m, rfl⟩ : ∃ m : Nat, v = m := ⟨v.toNat, by omega⟩
  have hm : m < xs.length := by omega
  refine ⟨xs[m], b', List.getElem_mem hm, h3, ?_⟩
  rw [set_app hs] at h4
  have hg : (st ++ [Ob.lst xs])[st.length]? = some (.lst xs) := by simp
  have hg' : (st.set i b' ++ [Ob.lst xs])[st.length]? = some (.lst xs) := by
    have := get_last (st.set i b') (.lst xs)
    rwa [set_len] at this
  have hix : idxF (.o st.length) (.d (.int m)) (st.set i b' ++ [.lst xs]) = .ok (.d xs[m]) (st.set i b' ++ [.lst xs]) := idx_o (j := m) hg' (List.getElem?_eq_getElem hm)
  have hlen : lenOf (st ++ [.lst xs]) (.o st.length) = some xs.length := by simp [lenOf, seqOf, lstOf]
  rw [calls_at (by omega) (fd := f25) rfl]
  refine callF_x (ex := [.lst xs]) (ex' := [.lst xs]) (rs' := [.o i, .o st.length]) (env := [some (.o i), some (.o st.length)]) rfl (by simp) rfl (by simp) ?_
  simp [f25, primF, hlen, h4, hix]
/-- from a text -/
theorem c27s {k : Nat} (hk : 1 < k) {n i : Nat} {b : Ob} {z : Str} (hx : 0 < z.length) (hl : z.length < 1000000) (st : List Ob) (hs : st[i]? = some b) (hb : Dk (n + 1) b) :
    ∃ (c : Nat) (b' : Ob), c ∈ z.cps.toList ∧ Dk n b' ∧ calls tb k 25 [.o i, .d (.str z)] st = .ok (.d (.str ⟨#[c]⟩)) (st.set i b') := by
  obtain ⟨v, b', h1, h2, h3, h4⟩ := c26 (k := k - 1) (by omega) (many := z.length) (by omega) (by omega) st hs hb
  obtain ⟨m, rfl⟩ : ∃ m : Nat, v = m := ⟨v.toNat, by omega⟩
  have hlz : z.length = z.cps.toList.length := rfl
  have hm : m < z.cps.toList.length := by omega
  refine ⟨z.cps.toList[m], b', List.getElem_mem hm, h3, ?_⟩
  have hix : idxF (.d (.str z)) (.d (.int m)) (st.set i b') = .ok (.d (.str ⟨#[z.cps.toList[m]]⟩)) (st.set i b') := by
    have hi : L2.atI (signs z) (m : Int) = some (.str ⟨#[z.cps.toList[m]]⟩) := by
      have : m < (signs z).length := by simpa [signs] using hm
      simp [L2.atI, L2.ixN, this]
      simp [signs]
    simp [idxF, idxS, hi]
  rw [calls_at (by omega) (fd := f25) rfl]
  refine callF_x (ex := []) (ex' := []) (rs' := [.o i, .d (.str z)]) (env := [some (.o i), some (.d (.str z))]) rfl (by simp) rfl (by simp) ?_
  simp [f25, primF, h4, hix]
end K02

namespace K02
open PySem Ev Hd Pl
/-! ### the store: the deck at i, and what is one's own -/
theorem g1 {st : List Ob} {i : Nat} (hi : i < st.length) (b : Ob) (L : List Ob) : (st.set i b ++ L)[i]? = some b := by
  rw [List.getElem?_append_left (by simpa using hi), List.getElem?_set_self hi]
theorem g2 {st : List Ob} {i : Nat} (hi : i < st.length) (b b' : Ob) (L : List Ob) : (st.set i b ++ L).set i b' = st.set i b' ++ L := by
  rw [List.set_append_left _ _ (by simpa using hi), List.set_set]
theorem g3 (st : List Ob) (i : Nat) (b : Ob) (L : List Ob) (j : Nat) : (st.set i b ++ L)[st.length + j]? = L[j]? := by
  rw [List.getElem?_append_right (by simp)]
  simp
theorem g4 (st : List Ob) (i : Nat) (b : Ob) (L : List Ob) (j : Nat) (x : Ob) : (st.set i b ++ L).set (st.length + j) x = st.set i b ++ L.set j x := by
  rw [List.set_append_right _ _ (by simp)]
  simp
theorem g5 {st : List Ob} {i j : Nat} (hj : j < st.length) (hij : i ≠ j) (b : Ob) (L : List Ob) : (st.set i b ++ L)[j]? = st[j]? := by
  rw [List.getElem?_append_left (by simpa using hj), List.getElem?_set_ne hij]
theorem pop_o {st : List Ob} {j m : Nat} {xs : List D} {d : D} (hs : st[j]? = some (.lst xs)) (hx : xs[m]? = some d) : popF (.o j) (.d (.int m)) st = .ok (.d d) (st.set j (.lst (xs.eraseIdx m))) := by
  simp [popF, objL, hs, hx]
theorem app_o {st : List Ob} {j : Nat} {xs : List D} {r : R} {d : D} (hs : st[j]? = some (.lst xs)) (hr : toD r = some d) (hl : xs.length < 1000000) : appF (.o j) r st = .ok (.d .none) (st.set j (.lst (xs ++ [d]))) := by
  simp [appF, objL, hs, hr, hl]
theorem methOk_o {p : Prim} {st : List Ob} {j : Nat} {xs : List D} (hs : st[j]? = some (.lst xs)) (hp : p ≠ .join) : methOk p (.o j) st = true := by
  simp [methOk, isObjL, hs, hp]
theorem Dk.mono {m n : Nat} {b : Ob} (h : Dk m b) (l : n ≤ m) : Dk n b := by
  obtain ⟨x, y, c, e, h1, h2, h3⟩ := h
  exact ⟨x, y, c, e, h1, h2, by omega⟩
theorem d26 {k : Nat} (hk : 0 < k) {n i : Nat} {b : Ob} {many : Int} (h0 : 0 < many) (h1 : many < 1000000) (st : List Ob) (hi : i < st.length) (L : List Ob) (hb : Dk (n + 1) b) :
    ∃ (v : Nat) (b' : Ob), (v : Int) < many ∧ Dk n b' ∧ calls tb k 24 [.o i, .d (.int many)] (st.set i b ++ L) = .ok (.d (.int v)) (st.set i b' ++ L) := by
  obtain ⟨v, b', h2, h3, h4, h5⟩ := c26 hk h0 h1 (st.set i b ++ L) (g1 hi b L) hb
  obtain ⟨m, rfl⟩ : ∃ m : Nat, v = m := ⟨v.toNat, by omega⟩
  exact ⟨m, b', h3, h4, by rw [h5, g2 hi]⟩
theorem d27o {k : Nat} (hk : 1 < k) {n i j : Nat} {b : Ob} {xs : List D} (hx : xs ≠ []) (hl : xs.length < 1000000) (st : List Ob) (hi : i < st.length) (L : List Ob) (hb : Dk (n + 1) b) (hj : (st.set i b ++ L)[j]? = some (.lst xs)) (hij : i ≠ j) :
    ∃ (x : D) (b' : Ob), x ∈ xs ∧ Dk n b' ∧ calls tb k 25 [.o i, .o j] (st.set i b ++ L) = .ok (.d x) (st.set i b' ++ L) := by
  obtain ⟨x, b', h2, h3, h4⟩ := c27o hk hx hl (st.set i b ++ L) (g1 hi b L) hb hj hij
  exact ⟨x, b', h2, h3, by rw [h4, g2 hi]⟩
theorem d27f {k : Nat} (hk : 1 < k) {n i : Nat} {b : Ob} {xs : List D} (hx : xs ≠ []) (hl : xs.length < 1000000) (st : List Ob) (hi : i < st.length) (L : List Ob) (hb : Dk (n + 1) b) :
    ∃ (x : D) (b' : Ob), x ∈ xs ∧ Dk n b' ∧ calls tb k 25 [.o i, .f (.lst xs)] (st.set i b ++ L) = .ok (.d x) (st.set i b' ++ L) := by
  obtain ⟨x, b', h2, h3, h4⟩ := c27f hk hx hl (st.set i b ++ L) (g1 hi b L) hb
  exact ⟨x, b', h2, h3, by rw [h4, g2 hi]⟩
theorem d27s {k : Nat} (hk : 1 < k) {n i : Nat} {b : Ob} {z : Str} (hx : 0 < z.length) (hl : z.length < 1000000) (st : List Ob) (hi : i < st.length) (L : List Ob) (hb : Dk (n + 1) b) :
    ∃ (c : Nat) (b' : Ob), c ∈ z.cps.toList ∧ Dk n b' ∧ calls tb k 25 [.o i, .d (.str z)] (st.set i b ++ L) = .ok (.d (.str ⟨#[c]⟩)) (st.set i b' ++ L) := by
  obtain ⟨x, b', h2, h3, h4⟩ := c27s hk hx hl (st.set i b ++ L) (g1 hi b L) hb
  exact ⟨x, b', h2, h3, by rw [h4, g2 hi]⟩
theorem cmp_eq_ii (a b : Int) (st : List Ob) : cmpF .eq (.d (.int a)) (.d (.int b)) st = .ok (.d (.bool (decide (a = b)))) st := by simp [cmpF]
theorem cmp_eq_ss (a b : Str) (st : List Ob) : cmpF .eq (.d (.str a)) (.d (.str b)) st = .ok (.d (.bool (decide (a = b)))) st := by simp [cmpF]
theorem cmp_ne_ss (a b : Str) (st : List Ob) : cmpF .ne (.d (.str a)) (.d (.str b)) st = .ok (.d (.bool (!decide (a = b)))) st := by simp [cmpF]
theorem cmp_le_ii (a b : Int) (st : List Ob) : cmpF .le (.d (.int a)) (.d (.int b)) st = .ok (.d (.bool (decide (a ≤ b)))) st := by simp [cmpF]
theorem cmp_gt_ii (a b : Int) (st : List Ob) : cmpF .gt (.d (.int a)) (.d (.int b)) st = .ok (.d (.bool (decide (b < a)))) st := by simp [cmpF]
/-- a for that ends, by what holds ahead of each item -/
theorem loop_inv {body : D → Envr → List Ob → Fl} {g : Option Nat} (I : List D → Envr → List Ob → Prop) :
    ∀ (xs : List D) (env : Envr) (st : List Ob), I xs env st → (∀ x ys env st, I (x :: ys) env st → ∃ env' st', body x env st = .next env' st' ∧ same g st st' ∧ I ys env' st') → ∃ env' st', loopS body g xs env st = .next env' st' ∧ I [] env' st'
  | [], env, st, h, _ => ⟨env, st, by rw [loopS], h⟩
  | x :: xs, env, st, h, k => by
    obtain ⟨env1, st1, h1, h2, h3⟩ := k x xs env st h
    rw [loopS_next h1 h2]
    exact loop_inv I xs env1 st1 h3 k
/-- the same, told on -/
theorem loop_on {body : D → Envr → List Ob → Fl} {g : Option Nat} (I : List D → Envr → List Ob → Prop) {C : Prop} (xs : List D) (env : Envr) (st : List Ob) (h : I xs env st)
    (c : ∀ env' st', loopS body g xs env st = .next env' st' → I [] env' st' → C) (k : ∀ x ys env st, I (x :: ys) env st → ∃ env' st', body x env st = .next env' st' ∧ same g st st' ∧ I ys env' st') : C := by
  obtain ⟨env', st', h1, h2⟩ := loop_inv I xs env st h k
  exact c env' st' h1 h2
theorem evI_range' {Φ : Calls} {e : E} {env : Envr} {st st' : List Ob} {n : Nat} (h : evE Φ e env st = .ok (.d (.int n)) st') (hn : n < 1000000) : evI Φ (.range1 e) env st = .ok ((List.range n).map fun (k : Nat) => (PyData.int (k : Int)), none) st' := by
  have e : evI Φ (.range1 e) env st = if (n : Int) < 1000000 ∧ -1000000 < (n : Int) then Rs.ok (((List.range (n : Int).toNat).map fun (k : Nat) => (PyData.int (k : Int))), none) st' else .err := by
    rw [evI, h, rs_ok]
  rw [e, if_pos (by omega), Int.toNat_natCast]
/-- a comprehension that draws -/
theorem compL_d {f : D → List Ob → Rs (List D)} {c n i : Nat} {st L : List Ob} {P : D → Prop} : ∀ (xs : List D) (b : Ob), Dk (n + c * xs.length) b →
    (∀ x ∈ xs, ∀ m b, Dk (m + c) b → ∃ d b', P d ∧ Dk m b' ∧ f x (st.set i b ++ L) = .ok [d] (st.set i b' ++ L)) →
    ∃ ds b', ds.length = xs.length ∧ (∀ d ∈ ds, P d) ∧ Dk n b' ∧ compL f none xs (st.set i b ++ L) = .ok ds (st.set i b' ++ L)
  | [], b, hb, _ => ⟨[], b, rfl, by simp, hb.mono (by omega), by rw [compL]⟩
  | x :: xs, b, hb, h => by
    obtain ⟨d, b1, h1, h2, h3⟩ := h x (by simp) (n + c * xs.length) b (hb.mono (by rw [List.length_cons, Nat.mul_add]; omega))
    obtain ⟨ds, b2, l1, l2, l3, l4⟩ := compL_d xs b1 h2 fun y hy => h y (by simp [hy])
    refine ⟨d :: ds, b2, by simp [l1], by simpa using ⟨h1, l2⟩, l3, ?_⟩
    rw [compL, h3]
    simp only [if_pos (same_none _ _), l4]
    rfl
theorem comp_d {Φ : Calls} {env : Envr} {elt : E} {tg : Tg} {src : It} {own : List Nat} {c n i : Nat} {st st0 L : List Ob} {P : D → Prop} {xs : List D} {b : Ob} (hi : evI Φ src env st0 = .ok (xs, none) (st.set i b ++ L)) (hb : Dk (n + c * xs.length) b)
    (he : ∀ x ∈ xs, ∀ m b, Dk (m + c) b → ∃ env' r d b', bindT tg x (wipeE env own) = some env' ∧ P d ∧ Dk m b' ∧ evE Φ elt env' (st.set i b ++ L) = .ok r (st.set i b' ++ L) ∧ toD r = some d) :
    ∃ ds b', ds.length = xs.length ∧ (∀ d ∈ ds, P d) ∧ Dk n b' ∧ evE Φ (.comp elt tg src .no own) env st0 = .ok (.f (.lst ds)) (st.set i b' ++ L) := by
  obtain ⟨ds, b', h1, h2, h3, h4⟩ := compL_d (i := i) (st := st) (L := L) (f := itemF Φ elt tg .no own env) xs b hb fun x hx m b hm => by
    obtain ⟨env', r, d, b', e1, e2, e3, e4, e5⟩ := he x hx m b hm
    refine ⟨d, b', e2, e3, ?_⟩
    simp only [itemF, e1, evC_no, rs_ok, e4, e5, if_true]
  exact ⟨ds, b', h1, h2, h3, by rw [evE_comp, hi, rs_ok, h4]; rfl⟩
/-! ### some of a row -/
theorem some_loop {k : Nat} (hk : 0 < k) {n i : Nat} (m : Int) (st : List Ob) (hi : i < st.length) (xs : List D) (hx : xs.length < 1000000) : ∀ (ts left found : List D) (b : Ob) (v5 : Option R), ts.length ≤ left.length → left.length + found.length = xs.length → (∀ y ∈ left, y ∈ xs) → (∀ y ∈ found, y ∈ xs) → Dk (n + ts.length) b →
    ∃ left' found' b' v5', loopS (forB (calls tb k) (.name 5) (.cons (.expr (.meth .append (.var 4) (.meth .pop (.var 3) (.call 24 (.cons (.var 0) (.cons (.prim .len (.cons (.var 3) .nil)) .nil)))))) .nil)) none ts [some (.o i), some (.o st.length), some (.d (.int m)), some (.o (st.length + 1)), some (.o (st.length + 2)), v5] (st.set i b ++ [.lst xs, .lst left, .lst found])
      = .next [some (.o i), some (.o st.length), some (.d (.int m)), some (.o (st.length + 1)), some (.o (st.length + 2)), v5'] (st.set i b' ++ [.lst xs, .lst left', .lst found']) ∧ found'.length = found.length + ts.length ∧ (∀ y ∈ found', y ∈ xs) ∧ Dk n b'
  | [], left, found, b, v5, _, _, _, h4, h5 => ⟨left, found, b, v5, by simp, by simp, h4, h5⟩
  | t :: ts, left, found, b, v5, h1, h2, h3, h4, h5 => by
    rw [List.length_cons] at h1
    obtain ⟨v, b1, hv, hb1, e1⟩ := d26 (k := k) hk (n := n + ts.length) (many := (left.length : Int)) (by omega) (by omega) st hi [.lst xs, .lst left, .lst found] (by simpa [Nat.add_assoc] using h5)
    have hv' : v < left.length := by omega
    have e2 := pop_o (st := st.set i b1 ++ [.lst xs, .lst left, .lst found]) (j := st.length + 1) (m := v) (d := left[v]) (by rw [g3]; rfl) (by simp [hv'])
    have e3 := app_o (st := st.set i b1 ++ [.lst xs, .lst (left.eraseIdx v), .lst found]) (j := st.length + 2) (r := .d left[v]) (d := left[v]) (by rw [g3]; rfl) rfl (by omega)
    have m1 := methOk_o (p := .pop) (st := st.set i b ++ [.lst xs, .lst left, .lst found]) (j := st.length + 1) (by rw [g3]; rfl) (by simp)
    have m2 := methOk_o (p := .append) (st := st.set i b ++ [.lst xs, .lst left, .lst found]) (j := st.length + 2) (by rw [g3]; rfl) (by simp)
    have hl : lenOf (st.set i b ++ [.lst xs, .lst left, .lst found]) (.o (st.length + 1)) = some left.length := by simp [lenOf, seqOf, lstOf, g3]
    rw [g4] at e2 e3
    obtain ⟨left', found', b', v5', a1, a2, a3, a4⟩ := some_loop hk m st hi xs hx ts (left.eraseIdx v) (found ++ [left[v]]) b1 (some (.d t)) (by rw [List.length_eraseIdx_of_lt hv']; omega) (by rw [List.length_eraseIdx_of_lt hv']; simp; omega) (fun y hy => h3 y (List.mem_of_mem_eraseIdx hy)) (by
      intro y hy
      rcases List.mem_append.mp hy with hy | hy
      · exact h4 y hy
      · rw [List.mem_singleton.mp hy]
        exact h3 _ (List.getElem_mem hv')) hb1
    refine ⟨left', found', b', v5', ?_, by simp at a2 ⊢; omega, a3, a4⟩
    rw [loopS_next ?_ (same_none _ _), a1]
    rw [forB_eq rfl]
    simp at e2 e3
    simp [m1, m2, primF, hl, e1, e2, e3]
theorem c28 {k : Nat} (hk : 1 < k) {n m i : Nat} {b : Ob} {xs : List D} (hx : xs.length < 1000000) (hm : m < 1000000) (st : List Ob) (hs : st[i]? = some b) (hb : Dk (n + m) b) :
    ∃ (ys : List D) (b' : Ob), (∀ y ∈ ys, y ∈ xs) ∧ ys.length ≤ m ∧ Dk n b' ∧ calls tb k 26 [.o i, .f (.lst xs), .d (.int m)] st = .ok (.f (.lst ys)) (st.set i b') := by
  have hi := lt_of_get hs
  obtain ⟨left', found', b', v5', a1, a2, a3, a4⟩ := some_loop (k := k - 1) (by omega) (n := n) (m : Int) st hi xs hx ((List.range (min xs.length m)).map fun (k : Nat) => (PyData.int (k : Int))) xs [] b none (by simp; omega) (by simp) (by simp) (by simp) (hb.mono (by simp; omega))
  refine ⟨found', b', a3, by simp at a2; omega, a4, ?_⟩
  rw [set_self hs] at a1
  rw [calls_at (by omega) (fd := f26) rfl]
  refine callF_o (ex := [.lst xs]) (ex' := [.lst xs, .lst left', .lst found']) (j := 2) (rs' := [.o i, .o st.length, .d (.int m)]) (env := [some (.o i), some (.o st.length), some (.d (.int m)), none, none, none]) rfl (by simp) rfl (by simp) (by simp) rfl ?_
  have hi' : evI (calls tb (k - 1)) (.range1 (.prim .min2 (.cons (.prim .len (.cons (.var 3) .nil)) (.cons (.var 2) .nil)))) [some (.o i), some (.o st.length), some (.d (.int m)), some (.o (st.length + 1)), some (.o (st.length + 2)), none] (st ++ [.lst xs, .lst xs, .lst []]) = .ok ((List.range (min xs.length m)).map fun (k : Nat) => (PyData.int (k : Int)), none) (st ++ [.lst xs, .lst xs, .lst []]) := by
    refine evI_range ?_ (by omega)
    have h0 : (st ++ [Ob.lst xs, .lst xs, .lst []])[st.length + 1]? = some (.lst xs) := by rw [List.getElem?_append_right (by omega)]; simp
    have hl : lenOf (st ++ [.lst xs, .lst xs, .lst []]) (.o (st.length + 1)) = some xs.length := by simp [lenOf, seqOf, lstOf]
    simp [primF, hl, intF]
    omega
  have h0 : seqOf (st ++ [Ob.lst xs]) (.o st.length) = some xs := by simp [seqOf, lstOf]
  simp [f26, primF, h0, toDs, parSet, hi', a1]
end K02

namespace K02
open PySem Ev Hd Pl
def f28_c0 : E := (.comp (.call 25 (.cons (.var 0) (.cons (.var 2) .nil))) (.name 4) (.range1 (.prim .add (.cons (.dat (.int 1)) (.cons (.call 24 (.cons (.var 0) (.cons (.call 25 (.cons (.var 0) (.cons (.lst (.cons (.dat (.int 1)) (.cons (.dat (.int 2)) (.cons (.dat (.int 8)) .nil)))) .nil))) .nil))) .nil)))) .no [4])
def f28_b0 : Ss := (.cons (.ite (.cmp .isin (.var 3) (.var 1)) (.cons (.asg 3 (.prim .add (.cons (.prim .add (.cons (.call 25 (.cons (.var 0) (.cons (.var 2) .nil))) (.cons (.var 5) .nil))) (.cons (.dat (.str "q")) .nil)))) .nil) .nil) .nil)
def f28_b1 : Ss := (.cons (.ite (.cmp .isin (.var 3) (.var 1)) (.cons (.asg 3 (.var 5)) .nil) .nil) .nil)
/-! ### words -/
def lets : List Nat := smallS.cps.toList
theorem lets_ok : ∀ c ∈ lets, c < 0x110000 := by decide +kernel
theorem lets_len : lets.length = 26 := by decide +kernel
structure WdL (l : List Nat) : Prop where
  pos : 1 ≤ l.length
  le : l.length ≤ 8
  mem : ∀ c ∈ l, c ∈ lets
theorem WdL.ok {l : List Nat} (h : WdL l) : okS ⟨l.toArray⟩ = true := okS_of (fun c hc => lets_ok c (h.mem c (by simpa using hc))) (by show l.toArray.size ≤ 1000; have := h.le; simp; omega)
theorem wd_iff (w : Str) : isWord (.str w) = true ↔ WdL w.cps.toList := by
  have e : w.length = w.cps.toList.length := rfl
  simp only [isWord, Bool.and_eq_true, decide_eq_true_eq, allIn, List.all_eq_true, e]
  exact ⟨fun ⟨⟨a, b⟩, c⟩ => ⟨by omega, by omega, c⟩, fun h => ⟨⟨by have := h.pos; omega, by have := h.le; omega⟩, h.mem⟩⟩
theorem wd_mk {l : List Nat} (h : WdL l) : isWord (.str ⟨l.toArray⟩) = true := (wd_iff _).mpr (by simpa using h)
theorem join_letters {ds : List D} (h : ∀ d ∈ ds, ∃ c, c ∈ lets ∧ d = .str ⟨#[c]⟩) (h1 : 1 ≤ ds.length) (h2 : ds.length ≤ 8) (st : List Ob) : ∃ w, isWord (.str w) = true ∧ joinF (.d (.str "")) (.f (.lst ds)) st = .ok (.d (.str w)) st := by
  have key : ∀ ds : List D, (∀ d ∈ ds, ∃ c, c ∈ lets ∧ d = .str ⟨#[c]⟩) → ∃ cs : List Nat, cs.length = ds.length ∧ (∀ c ∈ cs, c ∈ lets) ∧ ds.all isStr = true ∧ (ds.map fun x => (theStr x).cps.toList).flatten = cs := by
    intro ds
    induction ds with
    | nil => exact fun _ => ⟨[], rfl, by simp, rfl, rfl⟩
    | cons d ds ih =>
      intro h
      obtain ⟨c, hc, rfl⟩ := h _ List.mem_cons_self
      obtain ⟨cs, a1, a2, a3, a4⟩ := ih fun d hd => h d (List.mem_cons_of_mem _ hd)
      refine ⟨c :: cs, by simp [a1], by simpa using ⟨hc, a2⟩, by simpa [isStr] using a3, ?_⟩
      rw [List.map_cons, List.flatten_cons, a4]
      rfl
  obtain ⟨cs, a1, a2, a3, a4⟩ := key ds h
  have hw : WdL cs := ⟨by omega, by omega, a2⟩
  refine ⟨⟨cs.toArray⟩, wd_mk hw, ?_⟩
  have e0 : ("" : Str).length = 0 := by decide +kernel
  simp only [joinF, lstOf_f, a4, e0, a3, hw.ok, true_and, and_true]
  rw [if_pos (by omega)]
theorem str_add (a b : List Nat) : (⟨a.toArray⟩ : Str) ++ ⟨b.toArray⟩ = ⟨(a ++ b).toArray⟩ := by
  show Str.append _ _ = _
  simp [Str.append]
theorem str_eta (w : Str) : w = ⟨w.cps.toList.toArray⟩ := by cases w; simp
theorem add_words {a b : List Nat} (h : WdL (a ++ b)) (st : List Ob) : addF (.d (.str ⟨a.toArray⟩)) (.d (.str ⟨b.toArray⟩)) st = .ok (.d (.str ⟨(a ++ b).toArray⟩)) st := by
  simp only [addF, str_add, h.ok, if_true]
/-- in a list of texts -/
theorem in_strs {st : List Ob} {j : Nat} {ws : List Str} (h : st[j]? = some (.lst (ws.map .str))) (w : Str) : cmpF .isin (.d (.str w)) (.o j) st = .ok (.d (.bool (decide (w ∈ ws)))) st := by
  simp only [cmpF, cmpF.inF, dicOf, seqOf, lstOf, h, dok_sl, if_true, any_strs, okB_eq, Bool.false_bne]
theorem nodup_le {α : Type} [DecidableEq α] : ∀ {xs ws : List α}, xs.Nodup → (∀ x ∈ xs, x ∈ ws) → xs.length ≤ ws.length
  | [], _, _, _ => Nat.zero_le _
  | x :: xs, ws, hn, h => by
    rw [List.nodup_cons] at hn
    have h1 := h x List.mem_cons_self
    have h2 := nodup_le (xs := xs) (ws := ws.erase x) hn.2 fun y hy => by
      refine (List.mem_erase_of_ne ?_).mpr (h y (List.mem_cons_of_mem _ hy))
      rintro rfl
      exact hn.1 hy
    rw [List.length_erase_of_mem h1] at h2
    have := List.length_pos_of_mem h1
    rw [List.length_cons]
    omega
def qs : List Str := ["qa", "qb", "qc", "qd", "qe", "qf", "qg", "qh", "qi", "qj", "qk", "ql", "qm", "qn"]
theorem qs_nodup : qs.Nodup := by decide +kernel
theorem qs_words : ∀ q ∈ qs, isWord (.str q) = true := by decide +kernel
theorem small_eq : ("abcdefghijklmnopqrstuvwxyz" : Str) = smallS := rfl
theorem c30_loop1 {k : Nat} (hk : 2 < k) {n i j : Nat} (st : List Ob) (hi : i < st.length) (hij : i ≠ j) {ws : List Str} (hj : st[j]? = some (.lst (ws.map .str))) {w : Str} {b : Ob} (hw : isWord (.str w) = true) (hb : Dk (n + 26) b) :
    ∃ w' b' v5, isWord (.str w') = true ∧ Dk n b' ∧ loopS (forB (calls tb (k - 1)) (.name 5) f28_b0) none (signs smallS) [some (.o i), some (.o j), some (.d (.str smallS)), some (.d (.str w)), none, none] (st.set i b) = .next [some (.o i), some (.o j), some (.d (.str smallS)), some (.d (.str w')), none, v5] (st.set i b') := by
  refine loop_on (body := forB (calls tb (k - 1)) (.name 5) f28_b0) (g := none) (fun ys env st' => ∃ w' b' v5, isWord (.str w') = true ∧ Dk (n + ys.length) b' ∧ (∀ y ∈ ys, y ∈ signs smallS) ∧ env = [some (.o i), some (.o j), some (.d (.str smallS)), some (.d (.str w')), none, v5] ∧ st' = st.set i b')
    (signs smallS) [some (.o i), some (.o j), some (.d (.str smallS)), some (.d (.str w)), none, none] (st.set i b) ⟨w, b, none, hw, by rw [show (signs smallS).length = 26 by decide +kernel]; exact hb, fun y hy => hy, rfl, rfl⟩ ?_ ?_
  · rintro env' st' h1 ⟨w', b', v5, a1, a2, _, rfl, rfl⟩
    exact ⟨w', b', v5, a1, a2, h1⟩
  · rintro x ys env st' ⟨w', b', v5, a1, a2, a3, rfl, rfl⟩
    have hj' : (st.set i b')[j]? = some (.lst (ws.map .str)) := by rw [List.getElem?_set_ne hij, hj]
    obtain ⟨e, he, rfl⟩ : ∃ e, e ∈ lets ∧ x = .str ⟨#[e]⟩ := by
      have := a3 x List.mem_cons_self
      simp only [signs, List.mem_map] at this
      obtain ⟨e, h1, rfl⟩ := this
      exact ⟨e, h1, rfl⟩
    by_cases hm : w' ∈ ws
    · obtain ⟨c, b1, hc, hb1, e1⟩ := d27s (k := k - 1) (by omega) (z := smallS) (by decide +kernel) (by decide +kernel) st hi [] (n := n + ys.length) a2
      simp only [List.append_nil] at e1
      have hwd : WdL [c, e, 113] := ⟨by simp, by simp, by simp; exact ⟨hc, he, by decide +kernel⟩⟩
      have p1 := add_words (a := [c]) (b := [e]) ⟨by simp, by simp, fun d hd => hwd.mem d (by simp at hd ⊢; rcases hd with h | h <;> simp [h])⟩ (st.set i b1)
      have p2 := add_words (a := [c, e]) (b := [113]) hwd (st.set i b1)
      have hq : ("q" : Str) = ⟨#[113]⟩ := by decide +kernel
      refine ⟨_, _, ?_, same_none _ _, ⟨⟨#[c, e, 113]⟩, b1, some (.d (.str ⟨#[e]⟩)), wd_mk hwd, hb1, fun y hy => a3 y (List.mem_cons_of_mem _ hy), rfl, rfl⟩⟩
      rw [forB_eq rfl]
      simp at p1 p2
      simp [f28_b0, in_strs hj', hm, e1, primF, p1, p2, hq]
    · refine ⟨_, _, ?_, same_none _ _, ⟨w', b', some (.d (.str ⟨#[e]⟩)), a1, a2.mono (by simp), fun y hy => a3 y (List.mem_cons_of_mem _ hy), rfl, rfl⟩⟩
      rw [forB_eq rfl]
      simp [f28_b0, in_strs hj', hm]
theorem c30_loop2 {k : Nat} {i j : Nat} (st : List Ob) {ws : List Str} (hl : ws.length < 14) (hj : st[j]? = some (.lst (ws.map .str))) {w : Str} (hw : isWord (.str w) = true) (v5 : Option R) :
    ∃ w' v5', isWord (.str w') = true ∧ w' ∉ ws ∧ loopS (forB (calls tb (k - 1)) (.name 5) f28_b1) none (qs.map .str) [some (.o i), some (.o j), some (.d (.str smallS)), some (.d (.str w)), none, v5] st = .next [some (.o i), some (.o j), some (.d (.str smallS)), some (.d (.str w')), none, v5'] st := by
  refine loop_on (body := forB (calls tb (k - 1)) (.name 5) f28_b1) (g := none) (fun ys env st' => ∃ w' v5 ps qs', isWord (.str w') = true ∧ qs = ps ++ qs' ∧ ys = qs'.map .str ∧ (w' ∈ ws → ∀ p ∈ ps, p ∈ ws) ∧ env = [some (.o i), some (.o j), some (.d (.str smallS)), some (.d (.str w')), none, v5] ∧ st' = st)
    (qs.map .str) [some (.o i), some (.o j), some (.d (.str smallS)), some (.d (.str w)), none, v5] st ⟨w, v5, [], qs, hw, rfl, rfl, by simp, rfl, rfl⟩ ?_ ?_
  · rintro env' st' h1 ⟨w', v5', ps, qs', a1, a2, a3, a4, rfl, rfl⟩
    have : qs' = [] := by simpa using a3
    subst this
    rw [List.append_nil] at a2
    refine ⟨w', v5', a1, fun hm => ?_, h1⟩
    have := nodup_le qs_nodup (a2 ▸ a4 hm)
    have : qs.length = 14 := rfl
    omega
  · rintro x ys env st' ⟨w', v5, ps, qs', a1, a2, a3, a4, rfl, rfl⟩
    cases qs' with
    | nil => simp at a3
    | cons q qs' =>
      simp only [List.map_cons, List.cons.injEq] at a3
      obtain ⟨rfl, rfl⟩ := a3
      have hq : isWord (.str q) = true := qs_words q (by rw [a2]; simp)
      by_cases hm : w' ∈ ws
      · refine ⟨_, _, ?_, same_none _ _, ⟨q, some (.d (.str q)), ps ++ [q], qs', hq, by simp [a2], rfl, fun hq' p hp => ?_, rfl, rfl⟩⟩
        · rw [forB_eq rfl]
          simp [f28_b1, in_strs hj, hm]
        · rcases List.mem_append.mp hp with hp | hp
          · exact a4 hm p hp
          · rw [List.mem_singleton.mp hp]
            exact hq'
      · refine ⟨_, _, ?_, same_none _ _, ⟨w', some (.d (.str q)), ps ++ [q], qs', a1, by simp [a2], rfl, fun h => absurd h hm, rfl, rfl⟩⟩
        rw [forB_eq rfl]
        simp [f28_b1, in_strs hj, hm]
theorem c30 {k : Nat} (hk : 3 < k) {n i j : Nat} {b : Ob} (st : List Ob) (hs : st[i]? = some b) (hb : Dk (n + 40) b) (hij : i ≠ j) {ws : List Str} (hl : ws.length < 14) (hws : ∀ w ∈ ws, isWord (.str w) = true) (hj : st[j]? = some (.lst (ws.map .str))) :
    ∃ (w : Str) (b' : Ob), isWord (.str w) = true ∧ w ∉ ws ∧ Dk n b' ∧ calls tb k 28 [.o i, .o j] st = .ok (.d (.str w)) (st.set i b') := by
  have hi := lt_of_get hs
  have hst : st = st.set i b := (set_self hs).symm
  have hj' : ∀ b, (st.set i b)[j]? = some (.lst (ws.map .str)) := fun b => by rw [List.getElem?_set_ne hij, hj]
  -- the length
  obtain ⟨x, b1, hx, hb1, e1⟩ := d27f (k := k - 1) (by omega) (xs := [.int 1, .int 2, .int 8]) (by simp) (by simp) st hi [] (n := n + 39) hb
  obtain ⟨m, rfl, hm0, hm8⟩ : ∃ m : Nat, x = .int m ∧ 0 < m ∧ m ≤ 8 := by
    simp at hx
    rcases hx with rfl | rfl | rfl
    · exact ⟨1, rfl, by omega, by omega⟩
    · exact ⟨2, rfl, by omega, by omega⟩
    · exact ⟨8, rfl, by omega, by omega⟩
  obtain ⟨v, b2, hv, hb2, e2⟩ := d26 (k := k - 1) (by omega) (many := (m : Int)) (by omega) (by omega) st hi [] (n := n + 38) hb1
  simp only [List.append_nil] at e1 e2
  have hrng : evI (calls tb (k - 1)) (.range1 (.prim .add (.cons (.dat (.int 1)) (.cons (.call 24 (.cons (.var 0) (.cons (.call 25 (.cons (.var 0) (.cons (.lst (.cons (.dat (.int 1)) (.cons (.dat (.int 2)) (.cons (.dat (.int 8)) .nil)))) .nil))) .nil))) .nil)))) [some (.o i), some (.o j), some (.d (.str smallS)), none, none, none] (st.set i b) = .ok ((List.range (v + 1)).map fun (k : Nat) => (PyData.int (k : Int)), none) (st.set i b2) := by
    refine evI_range' ?_ (by omega)
    simp [primF, toDs, e1, e2, addF]
    omega
  obtain ⟨ds, b3, hl3, hp3, hb3, e3⟩ := comp_d (Φ := calls tb (k - 1)) (elt := .call 25 (.cons (.var 0) (.cons (.var 2) .nil))) (tg := .name 4) (own := [4]) (L := []) (n := n + 29) (c := 1) (P := fun d => ∃ c, c ∈ lets ∧ d = .str ⟨#[c]⟩) (b := b2) (by rw [List.append_nil]; exact hrng) (hb2.mono (by simp; omega)) (fun x _ m b hm => by
    obtain ⟨c, b', hc, hb', e⟩ := d27s (k := k - 1) (by omega) (z := smallS) (by decide +kernel) (by decide +kernel) st hi [] (n := m) hm
    refine ⟨_, .d (.str ⟨#[c]⟩), .str ⟨#[c]⟩, b', rfl, ⟨c, hc, rfl⟩, hb', ?_, rfl⟩
    simp only [List.append_nil] at e ⊢
    simp [wipeE, e])
  simp only [List.append_nil] at e3
  rw [List.length_map, List.length_range] at hl3
  obtain ⟨w, hw, e4⟩ := join_letters hp3 (by omega) (by omega) (st.set i b3)
  -- near to one of them
  obtain ⟨w1, b5, hw1, hb5, e5⟩ : ∃ w1 b5, isWord (.str w1) = true ∧ Dk (n + 26) b5 ∧ exS (calls tb (k - 1)) (.ite (.andE (.cmp .ne (.var 1) (.lst .nil)) (.cmp .eq (.call 24 (.cons (.var 0) (.cons (.dat (.int 3)) .nil))) (.dat (.int 0)))) (.cons (.asg 3 (.prim .add (.cons (.slc (.call 25 (.cons (.var 0) (.cons (.var 1) .nil))) .no (.yes (.dat (.int 7)))) (.cons (.call 25 (.cons (.var 0) (.cons (.var 2) .nil))) .nil)))) .nil) .nil) [some (.o i), some (.o j), some (.d (.str smallS)), some (.d (.str w)), none, none] (st.set i b3)
      = .next [some (.o i), some (.o j), some (.d (.str smallS)), some (.d (.str w1)), none, none] (st.set i b5) := by
    have hne : ∀ b, cmpF .ne (.o j) (.f (.lst [])) (st.set i b) = .ok (.d (.bool (decide (ws ≠ [])))) (st.set i b) := fun b => by
      have : nowD (st.set i b) (.o j) = some (.list (ws.map .str)) := by simp [nowD, hj']
      cases ws <;> simp [cmpF, bothD, this]
    by_cases h0 : ws = []
    · exact ⟨w, b3, hw, hb3.mono (by omega), by simp [hne, toDs, h0]⟩
    · obtain ⟨u, b4, hu, hb4, e6⟩ := d26 (k := k - 1) (by omega) (many := 3) (by omega) (by omega) st hi [] (n := n + 28) hb3
      simp only [List.append_nil] at e6
      by_cases hu0 : u = 0
      · obtain ⟨y, b5, hy, hb5, e7⟩ := d27o (k := k - 1) (by omega) (xs := ws.map .str) (by simpa using h0) (by simp; omega) st hi [] (n := n + 27) hb4 (by rw [List.append_nil]; exact hj' _) hij
        obtain ⟨y, hyw, rfl⟩ := List.mem_map.mp hy
        obtain ⟨c, b6, hc, hb6, e8⟩ := d27s (k := k - 1) (by omega) (z := smallS) (by decide +kernel) (by decide +kernel) st hi [] (n := n + 26) hb5
        simp only [List.append_nil] at e7 e8
        have hyl := (wd_iff y).mp (hws y hyw)
        have hwd : WdL (y.cps.toList.take 7 ++ [c]) := ⟨by simp, by simp; omega, by
          intro d hd
          rcases List.mem_append.mp hd with hd | hd
          · exact hyl.mem d (List.mem_of_mem_take hd)
          · rw [List.mem_singleton.mp hd]; exact hc⟩
        have p := add_words hwd (st.set i b6)
        refine ⟨⟨(y.cps.toList.take 7 ++ [c]).toArray⟩, b6, wd_mk hwd, hb6, ?_⟩
        have hsl : ∀ st, slcF (.d (.str y)) none (some 7) st = .ok (.d (.str ⟨(y.cps.toList.take 7).toArray⟩)) st := fun st => by
          have e : HT.sIx y.cps.toList.length y.cps.toList.length (some 7) = min 7 y.cps.toList.length := HT.sIx_nat _ _ 7
          simp only [slcF, cutL, HT.sIx_none, e]
          simp
        simp [hne, toDs, h0, e6, hu0, cmp_eq_ii, e7, e8, hsl, primF, p]
      · refine ⟨w, b4, hw, hb4.mono (by omega), ?_⟩
        simp [hne, toDs, h0, e6, hu0, cmp_eq_ii]
  obtain ⟨w2, b6, v5, hw2, hb6, e6⟩ := c30_loop1 (k := k) (by omega) st hi hij hj hw1 hb5
  obtain ⟨w3, v5', hw3, hn3, e7⟩ := c30_loop2 (k := k) (i := i) (st.set i b6) hl (hj' b6) hw2 v5
  refine ⟨w3, b6, hw3, hn3, hb6, ?_⟩
  rw [calls_at (by omega) (fd := f28) rfl]
  refine callF_x (ex := []) (ex' := []) (rs' := [.o i, .o j]) (env := [some (.o i), some (.o j), none, none, none, none]) rfl (by simp) rfl (by simp) ?_
  have hi1 : evI (calls tb (k - 1)) (.of (.var 2)) [some (.o i), some (.o j), some (.d (.str smallS)), some (.d (.str w1)), none, none] (st.set i b5) = .ok (signs smallS, none) (st.set i b5) := evI_str (by simp)
  have hi2 : evI (calls tb (k - 1)) (.of (.lst (.cons (.dat (.str "qa")) (.cons (.dat (.str "qb")) (.cons (.dat (.str "qc")) (.cons (.dat (.str "qd")) (.cons (.dat (.str "qe")) (.cons (.dat (.str "qf")) (.cons (.dat (.str "qg")) (.cons (.dat (.str "qh")) (.cons (.dat (.str "qi")) (.cons (.dat (.str "qj")) (.cons (.dat (.str "qk")) (.cons (.dat (.str "ql")) (.cons (.dat (.str "qm")) (.cons (.dat (.str "qn")) .nil)))))))))))))))) [some (.o i), some (.o j), some (.d (.str smallS)), some (.d (.str w2)), none, v5] (st.set i b6) = .ok (qs.map .str, none) (st.set i b6) := evI_new (by simp [toDs, qs])
  rw [List.append_nil, List.append_nil]
  rw [hst]
  simp only [f28_b0, f28_b1] at e6 e7
  have mj : ∀ st, methOk .join (.d (.str "")) st = true := fun st => rfl
  simp [f28, small_eq, e3, mj, primF, e4, e5, hi1, hi2, e6, e7]
end K02

namespace K02
open PySem Ev Hd Pl
def f29_b0 : Ss := (.cons (.expr (.meth .append (.var 3) (.call 28 (.cons (.var 0) (.cons (.var 3) .nil))))) .nil)
def f29_b1 : Ss := (.cons (.expr (.meth .append (.var 4) (.call 28 (.cons (.var 0) (.cons (.var 4) .nil))))) (.cons (.expr (.meth .append (.var 5) (.tup (.cons (.prim .idx (.cons (.var 4) (.cons (.prim .neg (.cons (.dat (.int 1)) .nil)) .nil))) (.cons (.tup .nil) (.cons (.var 7) .nil)))))) (.cons (.expr (.meth .append (.var 4) (.call 28 (.cons (.var 0) (.cons (.var 4) .nil))))) (.cons (.asg 8 (.prim .tuple (.cons (.comp (.call 25 (.cons (.var 0) (.cons (.var 3) .nil))) (.name 9) (.range1 (.prim .add (.cons (.dat (.int 1)) (.cons (.call 24 (.cons (.var 0) (.cons (.dat (.int 2)) .nil))) .nil)))) .no [9]) .nil))) (.cons (.expr (.meth .append (.var 5) (.tup (.cons (.prim .idx (.cons (.var 4) (.cons (.prim .neg (.cons (.dat (.int 1)) .nil)) .nil))) (.cons (.var 8) (.cons (.var 7) .nil)))))) .nil)))))
def f29_c0 : E := (.comp (.call 25 (.cons (.var 0) (.cons (.var 3) .nil))) (.name 9) (.range1 (.prim .add (.cons (.dat (.int 1)) (.cons (.call 24 (.cons (.var 0) (.cons (.dat (.int 2)) .nil))) .nil)))) .no [9])
def f29_b2 : Ss := (.cons (.expr (.meth .append (.var 4) (.call 28 (.cons (.var 0) (.cons (.var 4) .nil))))) (.cons (.asg 8 (.prim .tuple (.cons (.comp (.call 25 (.cons (.var 0) (.cons (.var 3) .nil))) (.name 9) (.range1 (.call 25 (.cons (.var 0) (.cons (.lst (.cons (.dat (.int 0)) (.cons (.dat (.int 1)) (.cons (.dat (.int 2)) (.cons (.dat (.int 2)) (.cons (.dat (.int 3)) .nil)))))) .nil)))) .no [9]) .nil))) (.cons (.expr (.meth .append (.var 5) (.tup (.cons (.prim .idx (.cons (.var 4) (.cons (.prim .neg (.cons (.dat (.int 1)) .nil)) .nil))) (.cons (.var 8) (.cons (.call 25 (.cons (.var 0) (.cons (.var 3) .nil))) .nil)))))) .nil)))
def f29_c1 : E := (.comp (.call 25 (.cons (.var 0) (.cons (.var 3) .nil))) (.name 9) (.range1 (.call 25 (.cons (.var 0) (.cons (.lst (.cons (.dat (.int 0)) (.cons (.dat (.int 1)) (.cons (.dat (.int 2)) (.cons (.dat (.int 2)) (.cons (.dat (.int 3)) .nil)))))) .nil)))) .no [9])
/-! ### signatures -/
theorem d30 {k : Nat} (hk : 3 < k) {n i j : Nat} {b : Ob} (st : List Ob) (hi : i < st.length) (L : List Ob) (hb : Dk (n + 40) b) (hij : i ≠ j) {ws : List Str} (hl : ws.length < 14) (hws : ∀ w ∈ ws, isWord (.str w) = true) (hj : (st.set i b ++ L)[j]? = some (.lst (ws.map .str))) :
    ∃ (w : Str) (b' : Ob), isWord (.str w) = true ∧ w ∉ ws ∧ Dk n b' ∧ calls tb k 28 [.o i, .o j] (st.set i b ++ L) = .ok (.d (.str w)) (st.set i b' ++ L) := by
  obtain ⟨w, b', h1, h2, h3, h4⟩ := c30 hk (st.set i b ++ L) (g1 hi b L) hb hij hl hws hj
  exact ⟨w, b', h1, h2, h3, by rw [h4, g2 hi]⟩
theorem strs_mem {ws : List Str} : ∀ {ds : List D}, (∀ d ∈ ds, ∃ x, x ∈ ws ∧ d = .str x) → ∃ xs : List Str, ds = xs.map .str ∧ ∀ x ∈ xs, x ∈ ws
  | [], _ => ⟨[], rfl, by simp⟩
  | d :: ds, h => by
    obtain ⟨x, hx, rfl⟩ := h d List.mem_cons_self
    obtain ⟨xs, rfl, h2⟩ := strs_mem fun e he => h e (List.mem_cons_of_mem _ he)
    exact ⟨x :: xs, rfl, by simpa using ⟨hx, h2⟩⟩
theorem inner_comp {k : Nat} (hk : 2 < k) {n i m : Nat} (st : List Ob) (hi : i < st.length) (L : List Ob) {ws : List Str} (hw : ws ≠ []) (hl : ws.length < 14) (h0 : L[0]? = some (.lst (ws.map .str))) {src : It} {e1 e2 e4 e5 e6 e7 e8 e9 : Option R} {st0 : List Ob} {b : Ob}
    (hs : evI (calls tb (k - 1)) src [some (.o i), e1, e2, some (.o st.length), e4, e5, e6, e7, e8, e9] st0 = .ok ((List.range m).map fun (k : Nat) => (PyData.int (k : Int)), none) (st.set i b ++ L)) (hb : Dk (n + m) b) :
    ∃ (xs : List Str) (b' : Ob), xs.length = m ∧ (∀ x ∈ xs, x ∈ ws) ∧ Dk n b' ∧ evE (calls tb (k - 1)) (.comp (.call 25 (.cons (.var 0) (.cons (.var 3) .nil))) (.name 9) src .no [9]) [some (.o i), e1, e2, some (.o st.length), e4, e5, e6, e7, e8, e9] st0 = .ok (.f (.lst (xs.map .str))) (st.set i b' ++ L) := by
  obtain ⟨ds, b', h1, h2, h3, h4⟩ := comp_d (Φ := calls tb (k - 1)) (elt := .call 25 (.cons (.var 0) (.cons (.var 3) .nil))) (tg := .name 9) (own := [9]) (n := n) (c := 1) (P := fun d => ∃ x, x ∈ ws ∧ d = .str x) hs (hb.mono (by simp)) (fun x _ m b hm => by
    have hj : (st.set i b ++ L)[st.length]? = some (.lst (ws.map .str)) := by have := g3 st i b L 0; simpa [h0] using this
    obtain ⟨d, b', hd, hb', e⟩ := d27o (k := k - 1) (by omega) (xs := ws.map .str) (by simpa using hw) (by simp; omega) st hi L (n := m) hm hj (by omega)
    obtain ⟨x, hx, rfl⟩ := List.mem_map.mp hd
    exact ⟨_, .d (.str x), .str x, b', rfl, ⟨x, hx, rfl⟩, hb', by simp [wipeE, e], rfl⟩)
  obtain ⟨xs, rfl, hx⟩ := strs_mem h2
  exact ⟨xs, b', by simpa using h1, hx, h3, h4⟩
structure Rw (ws ns : List Str) (rs : List Row) : Prop where
  names : rs.map (·.1) = ns
  nodup : ns.Nodup
  ok : ∀ r ∈ rs, rowOk r = true
  args : ∀ r ∈ rs, r.2.1.length ≤ 3
  sorts : ∀ x ∈ allS rs, x ∈ ws
theorem Rw.len {ws ns : List Str} {rs : List Row} (h : Rw ws ns rs) : ns.length = rs.length := by rw [← h.names, List.length_map]
theorem Rw.words {ws ns : List Str} {rs : List Row} (h : Rw ws ns rs) : ∀ w ∈ ns, isWord (.str w) = true := by
  rw [← h.names]
  intro w hw
  obtain ⟨r, hr, rfl⟩ := List.mem_map.mp hw
  have := h.ok r hr
  simp only [rowOk, Bool.and_eq_true] at this
  exact this.1
theorem Rw.add {ws ns : List Str} {rs : List Row} (h : Rw ws ns rs) (hws : ∀ w ∈ ws, isWord (.str w) = true) {w x : Str} {xs : List Str} (h1 : isWord (.str w) = true) (h2 : w ∉ ns) (h3 : ∀ x ∈ xs, x ∈ ws) (h4 : xs.length ≤ 3) (h5 : x ∈ ws) : Rw ws (ns ++ [w]) (rs ++ [(w, xs, x)]) where
  names := by simp [h.names]
  nodup := List.nodup_append.mpr ⟨h.nodup, by simp, by
    intro a ha b hb
    rw [List.mem_singleton.mp hb]
    rintro rfl
    exact h2 ha⟩
  ok := by
    intro r hr
    rcases List.mem_append.mp hr with hr | hr
    · exact h.ok r hr
    · rw [List.mem_singleton.mp hr, rowOk]
      simp only [h1, hws x h5, Bool.true_and, List.all_eq_true]
      exact fun y hy => hws y (h3 y hy)
  args := by
    intro r hr
    rcases List.mem_append.mp hr with hr | hr
    · exact h.args r hr
    · rw [List.mem_singleton.mp hr]
      exact h4
  sorts := by
    intro y hy
    rw [allS, List.flatMap_append, List.mem_append] at hy
    rcases hy with hy | hy
    · exact h.sorts y hy
    · simp at hy
      rcases hy with hy | rfl
      · exact h3 y hy
      · exact h5
theorem at_last (xs : List D) (x : D) : L2.atI (xs ++ [x]) (-1) = some x := by
  have h1 : (1 : Int) ≤ (xs.length : Int) + 1 := by omega
  have h2 : (-1 + ((xs.length : Int) + 1)).toNat = xs.length := by omega
  simp [L2.atI, L2.ixN, h1, h2]
theorem idx_last {st : List Ob} {j : Nat} {xs : List D} {x : D} (h : st[j]? = some (.lst (xs ++ [x]))) : idxF (.o j) (.d (.int (-1))) st = .ok (.d x) st := by
  simp only [idxF, dicOf, h, idxS, seqOf, lstOf, at_last]
/-- the sorts -/
theorem c31_l1 {k : Nat} (hk : 4 < k) {n i t : Nat} (st : List Ob) (hi : i < st.length) (x1 x2 : Option R) (ht : t < 14) {b : Ob} (ts : List D) (htl : ts.length = t) (hb : Dk (n + 40 * t) b) :
    ∃ (ws : List Str) (b' : Ob) (v6 : Option R), ws.length = t ∧ (∀ w ∈ ws, isWord (.str w) = true) ∧ Dk n b' ∧ loopS (forB (calls tb (k - 1)) (.name 6) f29_b0) none ts [some (.o i), x1, x2, some (.o st.length), some (.o (st.length + 1)), some (.o (st.length + 2)), none, none, none, none] (st.set i b ++ [.lst [], .lst [], .lst []])
      = .next [some (.o i), x1, x2, some (.o st.length), some (.o (st.length + 1)), some (.o (st.length + 2)), v6, none, none, none] (st.set i b' ++ [.lst (ws.map .str), .lst [], .lst []]) := by
  refine loop_on (body := forB (calls tb (k - 1)) (.name 6) f29_b0) (g := none) (fun ys env st' => ∃ (ws : List Str) (b : Ob) (v6 : Option R), (∀ w ∈ ws, isWord (.str w) = true) ∧ ws.length + ys.length = t ∧ Dk (n + 40 * ys.length) b ∧ env = [some (.o i), x1, x2, some (.o st.length), some (.o (st.length + 1)), some (.o (st.length + 2)), v6, none, none, none] ∧ st' = st.set i b ++ [.lst (ws.map .str), .lst [], .lst []])
    ts [some (.o i), x1, x2, some (.o st.length), some (.o (st.length + 1)), some (.o (st.length + 2)), none, none, none, none] (st.set i b ++ [.lst [], .lst [], .lst []]) ⟨[], b, none, by simp, by simpa using htl, by rw [htl]; exact hb, rfl, rfl⟩ ?_ ?_
  · rintro env' st' h1 ⟨ws, b', v6, a1, a2, a3, rfl, rfl⟩
    exact ⟨ws, b', v6, by simpa using a2, a1, by simpa using a3, h1⟩
  · rintro x ys env st' ⟨ws, b, v6, a1, a2, a3, rfl, rfl⟩
    rw [List.length_cons] at a2
    have hj : ∀ b, (st.set i b ++ [Ob.lst (ws.map .str), .lst [], .lst []])[st.length]? = some (.lst (ws.map .str)) := fun b => by have := g3 st i b [Ob.lst (ws.map .str), .lst [], .lst []] 0; simpa using this
    obtain ⟨w, b1, w1, w2, w3, e1⟩ := d30 (k := k - 1) (by omega) st hi [.lst (ws.map .str), .lst [], .lst []] (n := n + 40 * ys.length) (by rw [List.length_cons] at a3; exact a3.mono (by omega)) (j := st.length) (by omega) (by omega) a1 (hj b)
    have e2 := app_o (r := .d (.str w)) (d := .str w) (hj b1) rfl (by simp; omega)
    have e3 := g4 st i b1 [Ob.lst (ws.map .str), .lst [], .lst []] 0 (.lst (ws.map .str ++ [.str w]))
    simp only [Nat.add_zero] at e3
    rw [e3] at e2
    have m1 := methOk_o (p := .append) (hj b) (by simp)
    refine ⟨_, _, ?_, same_none _ _, ⟨ws ++ [w], b1, some (.d x), ?_, by simp; omega, w3, rfl, rfl⟩⟩
    · rw [forB_eq rfl]
      simp at e2
      simp [f29_b0, m1, e1, primF, e2]
    · intro y hy
      rcases List.mem_append.mp hy with hy | hy
      · exact a1 y hy
      · rw [List.mem_singleton.mp hy]
        exact w1
/-- each sort's rows -/
theorem c31_l2 {k : Nat} (hk : 4 < k) {n i : Nat} (st : List Ob) (hi : i < st.length) (x1 x2 : Option R) {ws : List Str} (hws : ∀ w ∈ ws, isWord (.str w) = true) (hwl : ws.length ≤ 4) {b : Ob} (v6 : Option R) (hb : Dk (n + 90 * ws.length) b) :
    ∃ (ns : List Str) (rs : List Row) (b' : Ob) (v7 v8 : Option R), Rw ws ns rs ∧ rs.length = 2 * ws.length ∧ (∀ x ∈ ws, ∃ q ∈ rs, q.2.1 = [] ∧ q.2.2 = x) ∧ Dk n b' ∧ loopS (forB (calls tb (k - 1)) (.name 7) f29_b1) (some st.length) (ws.map .str) [some (.o i), x1, x2, some (.o st.length), some (.o (st.length + 1)), some (.o (st.length + 2)), v6, none, none, none] (st.set i b ++ [.lst (ws.map .str), .lst [], .lst []])
      = .next [some (.o i), x1, x2, some (.o st.length), some (.o (st.length + 1)), some (.o (st.length + 2)), v6, v7, v8, none] (st.set i b' ++ [.lst (ws.map .str), .lst (ns.map .str), .lst (rs.map rowD)]) := by
  refine loop_on (body := forB (calls tb (k - 1)) (.name 7) f29_b1) (g := some st.length) (fun ys env st' => ∃ (ps qs ns : List Str) (rs : List Row) (b : Ob) (v7 v8 : Option R), ws = ps ++ qs ∧ ys = qs.map .str ∧ Rw ws ns rs ∧ rs.length = 2 * ps.length ∧ (∀ x ∈ ps, ∃ q ∈ rs, q.2.1 = [] ∧ q.2.2 = x) ∧ Dk (n + 90 * ys.length) b ∧ env = [some (.o i), x1, x2, some (.o st.length), some (.o (st.length + 1)), some (.o (st.length + 2)), v6, v7, v8, none] ∧ st' = st.set i b ++ [.lst (ws.map .str), .lst (ns.map .str), .lst (rs.map rowD)])
    (ws.map .str) [some (.o i), x1, x2, some (.o st.length), some (.o (st.length + 1)), some (.o (st.length + 2)), v6, none, none, none] (st.set i b ++ [.lst (ws.map .str), .lst [], .lst []]) ⟨[], ws, [], [], b, none, none, rfl, rfl, ⟨rfl, by simp, by simp, by simp, by simp [allS]⟩, rfl, by simp, by simpa using hb, rfl, rfl⟩ ?_ ?_
  · rintro env' st' h1 ⟨ps, qs, ns, rs, b', v7, v8, a1, a2, a3, a4, a5, a6, rfl, rfl⟩
    have : qs = [] := by simpa using a2
    subst this
    rw [List.append_nil] at a1
    subst a1
    exact ⟨ns, rs, b', v7, v8, a3, a4, a5, by simpa using a6, h1⟩
  · rintro x ys env st' ⟨ps, qs, ns, rs, b, v7, v8, a1, a2, a3, a4, a5, a6, rfl, rfl⟩
    cases qs with
    | nil => simp at a2
    | cons q qs =>
      simp only [List.map_cons, List.cons.injEq] at a2
      obtain ⟨rfl, rfl⟩ := a2
      have hq : q ∈ ws := by rw [a1]; simp
      have hlen : ps.length + qs.length + 1 = ws.length := by rw [a1]; simp; omega
      have hnl := a3.len
      have a6 : Dk (n + 90 * qs.length + 90) b := a6.mono (by simp; omega)
      have hw0 : ws ≠ [] := by rw [a1]; simp
      -- the constant
      have j0 : ∀ b L, (st.set i b ++ Ob.lst (ws.map .str) :: L)[st.length]? = some (.lst (ws.map .str)) := fun b L => by have := g3 st i b (Ob.lst (ws.map .str) :: L) 0; simpa using this
      have j1 : ∀ (b A : Ob) (l : List D) (L : List Ob), (st.set i b ++ A :: Ob.lst l :: L)[st.length + 1]? = some (.lst l) := fun b A l L => by rw [g3]; rfl
      have j2 : ∀ (b A B : Ob) (l : List D) (L : List Ob), (st.set i b ++ A :: B :: Ob.lst l :: L)[st.length + 2]? = some (.lst l) := fun b A B l L => by rw [g3]; rfl
      obtain ⟨w, b1, w1, w2, w3, e1⟩ := d30 (k := k - 1) (by omega) st hi [.lst (ws.map .str), .lst (ns.map .str), .lst (rs.map rowD)] (n := n + 90 * qs.length + 50) a6 (j := st.length + 1) (by omega) (by omega) a3.words (j1 _ _ _ _)
      have r1 := a3.add hws w1 w2 (xs := []) (by simp) (by simp) hq
      have e2 := app_o (r := .d (.str w)) (d := .str w) (j1 b1 (.lst (ws.map .str)) (ns.map .str) [.lst (rs.map rowD)]) rfl (by simp; omega)
      have e3 := idx_last (j1 b1 (.lst (ws.map .str)) (ns.map .str ++ [.str w]) [.lst (rs.map rowD)])
      have e4 := app_o (r := .d (rowD (w, [], q))) (d := rowD (w, [], q)) (j2 b1 (.lst (ws.map .str)) (.lst (ns.map .str ++ [.str w])) (rs.map rowD) []) rfl (by simp; omega)
      rw [g4] at e2 e4
      -- the other row
      obtain ⟨u, b2, u1, u2, u3, e5⟩ := d30 (k := k - 1) (by omega) st hi [.lst (ws.map .str), .lst ((ns ++ [w]).map .str), .lst ((rs ++ [(w, [], q)]).map rowD)] (n := n + 90 * qs.length + 10) w3 (j := st.length + 1) (by omega) (by simp; omega) r1.words (j1 _ _ _ _)
      have e6 := app_o (r := .d (.str u)) (d := .str u) (j1 b2 (.lst (ws.map .str)) ((ns ++ [w]).map .str) [.lst ((rs ++ [(w, [], q)]).map rowD)]) rfl (by simp; omega)
      obtain ⟨v, b3, hv, hb3, e7⟩ := d26 (k := k - 1) (by omega) (many := 2) (by omega) (by omega) st hi [.lst (ws.map .str), .lst ((ns ++ [w] ++ [u]).map .str), .lst ((rs ++ [(w, [], q)]).map rowD)] (n := n + 90 * qs.length + 9) u3
      have hr : evI (calls tb (k - 1)) (.range1 (.prim .add (.cons (.dat (.int 1)) (.cons (.call 24 (.cons (.var 0) (.cons (.dat (.int 2)) .nil))) .nil)))) [some (.o i), x1, x2, some (.o st.length), some (.o (st.length + 1)), some (.o (st.length + 2)), v6, some (.d (.str q)), v8, none] (st.set i b2 ++ [.lst (ws.map .str), .lst ((ns ++ [w] ++ [u]).map .str), .lst ((rs ++ [(w, [], q)]).map rowD)]) = .ok ((List.range (v + 1)).map fun (k : Nat) => (PyData.int (k : Int)), none) (st.set i b3 ++ [.lst (ws.map .str), .lst ((ns ++ [w] ++ [u]).map .str), .lst ((rs ++ [(w, [], q)]).map rowD)]) := by
        refine evI_range' ?_ (by omega)
        simp only [evE_prim, evEs_cons, evE_dat, rs_ok, evE_call, evE_var, List.getElem?_cons_zero, evEs_nil, e7]
        simp [primF, addF]
        omega
      obtain ⟨xs, b4, l1, l2, l3, e8⟩ := inner_comp (k := k) (by omega) (n := n + 90 * qs.length) st hi _ hw0 (by omega) rfl hr (hb3.mono (by omega))
      have r2 := r1.add hws u1 u2 (xs := xs) l2 (by omega) hq
      have e9 := idx_last (j1 b4 (.lst (ws.map .str)) ((ns ++ [w]).map .str ++ [.str u]) [.lst ((rs ++ [(w, [], q)]).map rowD)])
      have e10 := app_o (r := .d (rowD (u, xs, q))) (d := rowD (u, xs, q)) (j2 b4 (.lst (ws.map .str)) (.lst ((ns ++ [w]).map .str ++ [.str u])) ((rs ++ [(w, [], q)]).map rowD) []) rfl (by simp; omega)
      rw [g4] at e6 e10
      have m1 : ∀ (b A : Ob) (l : List D) (L : List Ob), methOk .append (.o (st.length + 1)) (st.set i b ++ A :: Ob.lst l :: L) = true := fun b A l L => methOk_o (j1 b A l L) (by simp)
      have m2 : ∀ (b A B : Ob) (l : List D) (L : List Ob), methOk .append (.o (st.length + 2)) (st.set i b ++ A :: B :: Ob.lst l :: L) = true := fun b A B l L => methOk_o (j2 b A B l L) (by simp)
      have sq : ∀ ds st, primF .tuple [.f (.lst ds)] st = .ok (.d (.tuple ds)) st := fun ds st => rfl
      refine ⟨_, _, ?_, ?_, ⟨ps ++ [q], qs, ns ++ [w] ++ [u], rs ++ [(w, [], q)] ++ [(u, xs, q)], b4, some (.d (.str q)), some (.d (.tuple (xs.map .str))), by simp [a1], rfl, r2, by simp; omega, ?_, by simpa using l3, rfl, rfl⟩⟩
      · rw [forB_eq rfl]
        simp [rowD] at e1 e2 e3 e4 e5 e6 e8 e9 e10
        simp [f29_b1, m1, m2, e1, e2, e3, e4, e5, e6, e8, e9, e10, primF, toDs, sq, rowD]
      · intro j e
        cases e
        rw [j0, j0]
      · intro y hy
        rcases List.mem_append.mp hy with hy | hy
        · obtain ⟨p, p1, p2⟩ := a5 y hy
          exact ⟨p, by simp [p1], p2⟩
        · rw [List.mem_singleton.mp hy]
          exact ⟨(w, [], q), by simp, rfl, rfl⟩
end K02

namespace K02
open PySem Ev Hd Pl
/-- rows more -/
theorem c31_l3 {k : Nat} (hk : 4 < k) {n i t : Nat} (st : List Ob) (hi : i < st.length) (x1 x2 : Option R) {ws : List Str} (hws : ∀ w ∈ ws, isWord (.str w) = true) (hw0 : ws ≠ []) (hwl : ws.length ≤ 4) {b : Ob} (v6 v7 v8 : Option R) (ts : List D) (htl : ts.length = t) {ns0 : List Str} {rs0 : List Row} (h0 : Rw ws ns0 rs0) (hl0 : rs0.length + t ≤ 9) (hb : Dk (n + 50 * t) b) :
    ∃ (ns : List Str) (rs : List Row) (b' : Ob) (v6' v8' : Option R), Rw ws ns rs ∧ rs.length ≤ 9 ∧ (∀ r ∈ rs0, r ∈ rs) ∧ Dk n b' ∧ loopS (forB (calls tb (k - 1)) (.name 6) f29_b2) none ts [some (.o i), x1, x2, some (.o st.length), some (.o (st.length + 1)), some (.o (st.length + 2)), v6, v7, v8, none] (st.set i b ++ [.lst (ws.map .str), .lst (ns0.map .str), .lst (rs0.map rowD)])
      = .next [some (.o i), x1, x2, some (.o st.length), some (.o (st.length + 1)), some (.o (st.length + 2)), v6', v7, v8', none] (st.set i b' ++ [.lst (ws.map .str), .lst (ns.map .str), .lst (rs.map rowD)]) := by
  refine loop_on (body := forB (calls tb (k - 1)) (.name 6) f29_b2) (g := none) (fun ys env st' => ∃ (ns : List Str) (rs : List Row) (b : Ob) (v6 v8 : Option R), Rw ws ns rs ∧ rs.length + ys.length ≤ 9 ∧ (∀ r ∈ rs0, r ∈ rs) ∧ Dk (n + 50 * ys.length) b ∧ env = [some (.o i), x1, x2, some (.o st.length), some (.o (st.length + 1)), some (.o (st.length + 2)), v6, v7, v8, none] ∧ st' = st.set i b ++ [.lst (ws.map .str), .lst (ns.map .str), .lst (rs.map rowD)])
    ts [some (.o i), x1, x2, some (.o st.length), some (.o (st.length + 1)), some (.o (st.length + 2)), v6, v7, v8, none] (st.set i b ++ [.lst (ws.map .str), .lst (ns0.map .str), .lst (rs0.map rowD)]) ⟨ns0, rs0, b, v6, v8, h0, by omega, fun r hr => hr, by rw [htl]; exact hb, rfl, rfl⟩ ?_ ?_
  · rintro env' st' h1 ⟨ns, rs, b', v6, v8, a3, a4, a5, a6, rfl, rfl⟩
    exact ⟨ns, rs, b', v6, v8, a3, by simpa using a4, a5, by simpa using a6, h1⟩
  · rintro x ys env st' ⟨ns, rs, b, v6, v8, a3, a4, a5, a6, rfl, rfl⟩
    rw [List.length_cons] at a4
    have hnl := a3.len
    have a6 : Dk (n + 50 * ys.length + 50) b := a6.mono (by simp; omega)
    have j0 : ∀ b L, (st.set i b ++ Ob.lst (ws.map .str) :: L)[st.length]? = some (.lst (ws.map .str)) := fun b L => by have := g3 st i b (Ob.lst (ws.map .str) :: L) 0; simpa using this
    have j1 : ∀ (b A : Ob) (l : List D) (L : List Ob), (st.set i b ++ A :: Ob.lst l :: L)[st.length + 1]? = some (.lst l) := fun b A l L => by rw [g3]; rfl
    have j2 : ∀ (b A B : Ob) (l : List D) (L : List Ob), (st.set i b ++ A :: B :: Ob.lst l :: L)[st.length + 2]? = some (.lst l) := fun b A B l L => by rw [g3]; rfl
    obtain ⟨u, b2, u1, u2, u3, e5⟩ := d30 (k := k - 1) (by omega) st hi [.lst (ws.map .str), .lst (ns.map .str), .lst (rs.map rowD)] (n := n + 50 * ys.length + 10) a6 (j := st.length + 1) (by omega) (by omega) a3.words (j1 _ _ _ _)
    have e6 := app_o (r := .d (.str u)) (d := .str u) (j1 b2 (.lst (ws.map .str)) (ns.map .str) [.lst (rs.map rowD)]) rfl (by simp; omega)
    obtain ⟨y, b3, hy, hb3, e7⟩ := d27f (k := k - 1) (by omega) (xs := [.int 0, .int 1, .int 2, .int 2, .int 3]) (by simp) (by simp) st hi [.lst (ws.map .str), .lst ((ns ++ [u]).map .str), .lst (rs.map rowD)] (n := n + 50 * ys.length + 9) u3
    obtain ⟨v, rfl, hv⟩ : ∃ v : Nat, y = .int v ∧ v ≤ 3 := by
      simp at hy
      rcases hy with rfl | rfl | rfl | rfl
      · exact ⟨0, rfl, by omega⟩
      · exact ⟨1, rfl, by omega⟩
      · exact ⟨2, rfl, by omega⟩
      · exact ⟨3, rfl, by omega⟩
    have hr : evI (calls tb (k - 1)) (.range1 (.call 25 (.cons (.var 0) (.cons (.lst (.cons (.dat (.int 0)) (.cons (.dat (.int 1)) (.cons (.dat (.int 2)) (.cons (.dat (.int 2)) (.cons (.dat (.int 3)) .nil)))))) .nil)))) [some (.o i), x1, x2, some (.o st.length), some (.o (st.length + 1)), some (.o (st.length + 2)), some (.d x), v7, v8, none] (st.set i b2 ++ [.lst (ws.map .str), .lst ((ns ++ [u]).map .str), .lst (rs.map rowD)]) = .ok ((List.range v).map fun (k : Nat) => (PyData.int (k : Int)), none) (st.set i b3 ++ [.lst (ws.map .str), .lst ((ns ++ [u]).map .str), .lst (rs.map rowD)]) := by
      refine evI_range' ?_ (by omega)
      simp only [evEs_cons, evE_dat, rs_ok, evE_call, evE_var, evE_lst, List.getElem?_cons_zero, evEs_nil, toDs, toD_d, e7]
    obtain ⟨xs, b4, l1, l2, l3, e8⟩ := inner_comp (k := k) (by omega) (n := n + 50 * ys.length + 1) st hi _ hw0 (by omega) rfl hr (hb3.mono (by omega))
    obtain ⟨z, b5, hz, hb5, e11⟩ := d27o (k := k - 1) (by omega) (xs := ws.map .str) (by simpa using hw0) (by simp; omega) st hi [.lst (ws.map .str), .lst ((ns ++ [u]).map .str), .lst (rs.map rowD)] (n := n + 50 * ys.length) l3 (j0 _ _) (by omega)
    obtain ⟨q, hq, rfl⟩ := List.mem_map.mp hz
    have r2 := a3.add hws u1 u2 (xs := xs) l2 (by omega) hq
    have e9 := idx_last (j1 b4 (.lst (ws.map .str)) (ns.map .str ++ [.str u]) [.lst (rs.map rowD)])
    have e10 := app_o (r := .d (rowD (u, xs, q))) (d := rowD (u, xs, q)) (j2 b5 (.lst (ws.map .str)) (.lst (ns.map .str ++ [.str u])) (rs.map rowD) []) rfl (by simp; omega)
    rw [g4] at e6 e10
    have m1 : ∀ (b A : Ob) (l : List D) (L : List Ob), methOk .append (.o (st.length + 1)) (st.set i b ++ A :: Ob.lst l :: L) = true := fun b A l L => methOk_o (j1 b A l L) (by simp)
    have m2 : ∀ (b A B : Ob) (l : List D) (L : List Ob), methOk .append (.o (st.length + 2)) (st.set i b ++ A :: B :: Ob.lst l :: L) = true := fun b A B l L => methOk_o (j2 b A B l L) (by simp)
    have sq : ∀ ds st, primF .tuple [.f (.lst ds)] st = .ok (.d (.tuple ds)) st := fun ds st => rfl
    refine ⟨_, _, ?_, same_none _ _, ⟨ns ++ [u], rs ++ [(u, xs, q)], b5, some (.d x), some (.d (.tuple (xs.map .str))), r2, by simp; omega, fun r hr => by simp [a5 r hr], hb5, rfl, rfl⟩⟩
    rw [forB_eq rfl]
    simp [rowD] at e5 e6 e8 e9 e10 e11
    simp [f29_b2, m1, m2, e5, e6, e8, e9, e10, e11, primF, toDs, sq, rowD]
/-! ### sorted rows -/
def insR (x : Row) : List Row → List Row
  | [] => [x]
  | y :: ys => if ltS y.1 x.1 then y :: insR x ys else x :: y :: ys
def sortR : List Row → List Row
  | [] => []
  | x :: xs => insR x (sortR xs)
theorem mem_insR (x z : Row) (l : List Row) : z ∈ insR x l ↔ z = x ∨ z ∈ l := by
  induction l with
  | nil => simp [insR]
  | cons y l ih =>
    rw [insR]
    cases ltS y.1 x.1
    · simp
    · simp [ih]
      exact or_left_comm
theorem mem_sortR (z : Row) (l : List Row) : z ∈ sortR l ↔ z ∈ l := by
  induction l with
  | nil => simp [sortR]
  | cons y l ih => simp [sortR, mem_insR, ih]
theorem len_insR (x : Row) (l : List Row) : (insR x l).length = l.length + 1 := by
  induction l with
  | nil => simp [insR]
  | cons y l ih =>
    rw [insR]
    cases ltS y.1 x.1 <;> simp [ih]
theorem len_sortR (l : List Row) : (sortR l).length = l.length := by
  induction l with
  | nil => simp [sortR]
  | cons y l ih => simp [sortR, len_insR, ih]
theorem lt_rows {r q : Row} (h : q.1 ≠ r.1) : ltD (rowD q) (rowD r) = ltS q.1 r.1 := by
  rw [rowD, rowD, ltD, ltAll, eqv_ss]
  simp [h, ltD, ltS]
theorem insD_rows (x : Row) (l : List Row) (h : ∀ y ∈ l, y.1 ≠ x.1) : insD (rowD x) (l.map rowD) = (insR x l).map rowD := by
  induction l with
  | nil => rfl
  | cons y l ih =>
    rw [List.map_cons, insD, insR, lt_rows (h y (by simp)), ih fun z hz => h z (by simp [hz])]
    cases ltS y.1 x.1 <;> rfl
theorem sortD_rows (l : List Row) (h : (l.map (·.1)).Nodup) : sortD (l.map rowD) = (sortR l).map rowD := by
  induction l with
  | nil => rfl
  | cons y l ih =>
    rw [List.map_cons, List.nodup_cons] at h
    rw [List.map_cons, sortD, sortR, ih h.2, insD_rows]
    intro z hz e
    exact h.1 (List.mem_map.mpr ⟨z, (mem_sortR z l).mp hz, e⟩)
theorem ltS_tot {x y : Str} (h : ltS x y = false) (n : x ≠ y) : ltS y x = true := by
  simp only [ltS, decide_eq_true_eq, decide_eq_false_iff_not] at h ⊢
  rcases Std.le_total (a := x.cps.toList) (b := y.cps.toList) with h1 | h1
  · rcases List.le_iff_lt_or_eq.mp h1 with h2 | h2
    · exact absurd h2 h
    · exact absurd (by rw [str_eta x, str_eta y, h2]) n
  · rcases List.le_iff_lt_or_eq.mp h1 with h2 | h2
    · exact h2
    · exact absurd (by rw [str_eta x, str_eta y, h2]) n
theorem asc_insR (x : Row) : ∀ (l : List Row), (∀ y ∈ l, y.1 ≠ x.1) → l.Pairwise (fun a b => ltS a.1 b.1 = true) → (insR x l).Pairwise (fun a b => ltS a.1 b.1 = true)
  | [], _, _ => by simp [insR]
  | y :: l, h, p => by
    rw [List.pairwise_cons] at p
    rw [insR]
    cases e : ltS y.1 x.1 with
    | true =>
      refine List.pairwise_cons.mpr ⟨fun z hz => ?_, asc_insR x l (fun z hz => h z (by simp [hz])) p.2⟩
      rcases (mem_insR x z l).mp hz with rfl | hz
      · exact e
      · exact p.1 z hz
    | false =>
      have e' := ltS_tot e (h y (by simp))
      refine List.pairwise_cons.mpr ⟨fun z hz => ?_, List.pairwise_cons.mpr p⟩
      rcases List.mem_cons.mp hz with rfl | hz
      · exact e'
      · exact ltS_trans e' (p.1 z hz)
theorem asc_sortR (l : List Row) (h : (l.map (·.1)).Nodup) : (sortR l).Pairwise (fun a b => ltS a.1 b.1 = true) := by
  induction l with
  | nil => simp [sortR]
  | cons y l ih =>
    rw [List.map_cons, List.nodup_cons] at h
    rw [sortR]
    refine asc_insR y _ (fun z hz e => ?_) (ih h.2)
    exact h.1 (List.mem_map.mpr ⟨z, (mem_sortR z l).mp hz, e⟩)
theorem asc_of : ∀ {l : List Str}, l.Pairwise (fun a b => ltS a b = true) → asc l = true
  | [], _ => rfl
  | [x], _ => rfl
  | x :: y :: l, h => by
    rw [List.pairwise_cons] at h
    have h2 := asc_of h.2
    simp only [asc, List.drop_succ_cons, List.drop_zero] at h2 ⊢
    rw [List.zip_cons_cons, List.all_cons]
    simp only [h.1 y (by simp), Bool.true_and]
    exact h2
theorem rows_ok (l : List Row) : sortOk (l.map rowD) = true := by
  have h1 : Ev.pairsOk (l.map rowD) = true := by
    have hs : ∀ (a b : List Str), cmpAll (a.map PyData.str) (b.map PyData.str) = true := by
      intro a
      induction a with
      | nil => intro b; simp [cmpAll]
      | cons x a ih => intro b; cases b with
        | nil => simp [cmpAll]
        | cons y b => simp [cmpAll, cmpOk, ih]
    simp only [Ev.pairsOk, List.all_eq_true, List.mem_map]
    rintro _ ⟨a, _, rfl⟩ _ ⟨b, _, rfl⟩
    exact cmpPr_of (by simp [rowD, cmpOk, cmpAll, hs])
  have h2 : PyData.depthAll (l.map rowD) ≤ 150 := depthAll_le fun x hx => by
    obtain ⟨r, _, rfl⟩ := List.mem_map.mp hx
    simp [rowD, PyData.depth, PyData.depthAll, depth_strs]
  have h3 : (l.map rowD).all isTup1 = true := by
    simp only [List.all_eq_true, List.mem_map]
    rintro _ ⟨a, _, rfl⟩
    rfl
  simp [sortOk, h1, h2, h3]
theorem allS_mem {x : Str} {s : Sg} : x ∈ allS s ↔ ∃ r ∈ s, x ∈ r.2.1 ∨ x = r.2.2 := by
  simp [allS]
/-- the signature -/
theorem c31 {k : Nat} (hk : 4 < k) {n i kinds more : Nat} {b : Ob} (h1 : 0 < kinds) (h2 : 0 < more) (h3 : 2 * kinds + more ≤ 10) (st : List Ob) (hs : st[i]? = some b) (hb : Dk (n + 1000) b) :
    ∃ (s : Sg) (b' : Ob), Gs s ∧ s ≠ [] ∧ Dk n b' ∧ calls tb k 29 [.o i, .d (.int kinds), .d (.int more)] st = .ok (.d (sgD s)) (st.set i b') := by
  have hi := lt_of_get hs
  have hst : st = st.set i b := (set_self hs).symm
  obtain ⟨v, b1, hv, hb1, e1⟩ := d26 (k := k - 1) (by omega) (many := (kinds : Int)) (by omega) (by omega) st hi [.lst [], .lst [], .lst []] (n := n + 999) hb
  have hr1 : evI (calls tb (k - 1)) (.range1 (.prim .add (.cons (.dat (.int 1)) (.cons (.call 24 (.cons (.var 0) (.cons (.var 1) .nil))) .nil)))) [some (.o i), some (.d (.int kinds)), some (.d (.int more)), some (.o st.length), some (.o (st.length + 1)), some (.o (st.length + 2)), none, none, none, none] (st.set i b ++ [.lst [], .lst [], .lst []]) = .ok ((List.range (v + 1)).map fun (k : Nat) => (PyData.int (k : Int)), none) (st.set i b1 ++ [.lst [], .lst [], .lst []]) := by
    refine evI_range' ?_ (by omega)
    simp [primF, e1, addF]
    omega
  obtain ⟨ws, b2, v6, l1, hws, hb2, e2⟩ := c31_l1 (k := k) hk (n := n + 820) st hi (some (.d (.int kinds))) (some (.d (.int more))) (t := v + 1) (by omega) ((List.range (v + 1)).map fun (k : Nat) => (PyData.int (k : Int))) (by simp) (hb1.mono (by omega))
  obtain ⟨ns, rs, b3, v7, v8, hr, hl, hc, hb3, e3⟩ := c31_l2 (k := k) hk (n := n + 455) st hi (some (.d (.int kinds))) (some (.d (.int more))) hws (by omega) v6 (hb2.mono (by omega))
  obtain ⟨u, b4, hu, hb4, e4⟩ := d26 (k := k - 1) (by omega) (many := (more : Int)) (by omega) (by omega) st hi [.lst (ws.map .str), .lst (ns.map .str), .lst (rs.map rowD)] (n := n + 454) hb3
  have hr2 : evI (calls tb (k - 1)) (.range1 (.call 24 (.cons (.var 0) (.cons (.var 2) .nil)))) [some (.o i), some (.d (.int kinds)), some (.d (.int more)), some (.o st.length), some (.o (st.length + 1)), some (.o (st.length + 2)), v6, v7, v8, none] (st.set i b3 ++ [.lst (ws.map .str), .lst (ns.map .str), .lst (rs.map rowD)]) = .ok ((List.range u).map fun (k : Nat) => (PyData.int (k : Int)), none) (st.set i b4 ++ [.lst (ws.map .str), .lst (ns.map .str), .lst (rs.map rowD)]) := by
    refine evI_range' ?_ (by omega)
    simp [e4]
  obtain ⟨ns', rs', b5, v6', v8', hr', hl', hc', hb5, e5⟩ := c31_l3 (k := k) hk (n := n) st hi (some (.d (.int kinds))) (some (.d (.int more))) hws (by rintro rfl; simp at l1) (by omega) v6 v7 v8 ((List.range u).map fun (k : Nat) => (PyData.int (k : Int))) rfl hr (by simp; omega) (hb4.mono (by simp; omega))
  have hnd : (rs'.map (·.1)).Nodup := hr'.names ▸ hr'.nodup
  have hmem : ∀ x, x ∈ allS (sortR rs') → x ∈ allS rs' := fun x hx => by
    obtain ⟨r, h1, h2⟩ := allS_mem.mp hx
    exact allS_mem.mpr ⟨r, (mem_sortR _ _).mp h1, h2⟩
  refine ⟨sortR rs', b5, ⟨⟨by rw [len_sortR]; exact hl', fun r hr => hr'.args r ((mem_sortR _ _).mp hr)⟩, fun r hr => hr'.ok r ((mem_sortR _ _).mp hr), ?_, fun x hx => ?_⟩, ?_, hb5, ?_⟩
  · refine asc_of (List.pairwise_map.mpr ?_)
    exact asc_sortR rs' hnd
  · obtain ⟨q, q1, q2, q3⟩ := hc x (hr'.sorts x (hmem x hx))
    exact ⟨q, (mem_sortR _ _).mpr (hc' q q1), q2, q3⟩
  · intro e
    have e1 := congrArg List.length e
    rw [len_sortR] at e1
    have h0 : 0 < rs.length := by omega
    obtain ⟨r, hr⟩ := List.exists_mem_of_length_pos h0
    have e2 := List.length_pos_of_mem (hc' r hr)
    rw [e1] at e2
    simp at e2
  · rw [calls_at (by omega) (fd := f29) rfl]
    refine callF_x (ex := []) (ex' := [.lst (ws.map .str), .lst (ns'.map .str), .lst (rs'.map rowD)]) (rs' := [.o i, .d (.int kinds), .d (.int more)]) (env := [some (.o i), some (.d (.int kinds)), some (.d (.int more)), none, none, none, none, none, none, none]) rfl (by simp) rfl (by simp) ?_
    have hi2 : evI (calls tb (k - 1)) (.of (.var 3)) [some (.o i), some (.d (.int kinds)), some (.d (.int more)), some (.o st.length), some (.o (st.length + 1)), some (.o (st.length + 2)), v6, none, none, none] (st.set i b2 ++ [.lst (ws.map .str), .lst [], .lst []]) = .ok (ws.map .str, some st.length) (st.set i b2 ++ [.lst (ws.map .str), .lst [], .lst []]) := evI_obj (by simp) (by have := g3 st i b2 [.lst (ws.map .str), .lst [], .lst []] 0; simpa using this)
    have hso : primF .sorted [.o (st.length + 2)] (st.set i b5 ++ [.lst (ws.map .str), .lst (ns'.map .str), .lst (rs'.map rowD)]) = .ok (.f (.lst ((sortR rs').map rowD))) (st.set i b5 ++ [.lst (ws.map .str), .lst (ns'.map .str), .lst (rs'.map rowD)]) := by
      have h1 : lstOf (st.set i b5 ++ [.lst (ws.map .str), .lst (ns'.map .str), .lst (rs'.map rowD)]) (.o (st.length + 2)) = some (rs'.map rowD) := by simp [lstOf, g3]
      simp only [primF, h1, rows_ok, if_true, sortD_rows rs' hnd]
    have htu : ∀ ds st, primF .tuple [.f (.lst ds)] st = .ok (.d (.tuple ds)) st := fun ds st => rfl
    simp only [f29_b0, f29_b1, f29_b2] at e2 e3 e5
    rw [← hst] at hr1
    simp [f29, parSet, toDs, hr1, e2, hi2, e3, hr2, e5, hso, htu, sgD]
end K02

namespace K02
open PySem Ev Hd Pl
/-! ### sorts, variables -/
def srtS (s : Sg) : List Str := setS (s.map (·.2.2))
theorem mem_srtS {g : Sg} (x : Str) : x ∈ srtS g ↔ ∃ r ∈ g, r.2.2 = x := by simp [srtS]
theorem c32 {k : Nat} (hk : 0 < k) {s : Sg} (hs : Sm s) (st : List Ob) : calls tb k 30 [.d (sgD s)] st = .ok (.f (.lst ((srtS s).map .str))) st := by
  rw [calls_at (by omega) (fd := f30) rfl]
  refine callF_n (ex := []) (ex' := []) (rs' := [.d (sgD s)]) (env := [some (.d (sgD s)), none]) rfl (by simp) rfl rfl ?_
  have w : ∀ st, evE (calls tb (k - 1)) (.comp (.prim .idx (.cons (.var 1) (.cons (.dat (.int 2)) .nil))) (.name 1) (.of (.var 0)) .no [1]) [some (.d (sgD s)), none] st = .ok (.f (.lst ((s.map (·.2.2)).map PyData.str))) st := fun st => by
    rw [List.map_map]
    refine cmap (l := s) (F := rowD) (g := none) (evI_tuple (by simp [sgD])) fun r _ => ⟨_, .d (.str r.2.2), rfl, ?_, rfl⟩
    simp [wipeE, primF]
  obtain ⟨l, hl⟩ : ∃ l, l = s.map (·.2.2) := ⟨_, rfl⟩
  have hlen : l.length ≤ 60 := by rw [hl]; have := hs.rows; simp; omega
  rw [← hl] at w
  simp [f30, w, primF_set l hlen, srtS, ← hl]
theorem evI_new' {Φ : Calls} {e : E} {env : Envr} {st st' : List Ob} {xs : List D} (h : evE Φ e env st = .ok (.f (.lst xs)) st') : evI Φ (.of e) env st = .ok (xs, none) st' := by rw [evI, h] <;> rfl
def varD (v : Str × Str) : D := tmD (.var v.1 v.2)
/-- the known variables -/
def Kn (s : Sg) (vs : List (Str × Str)) : Prop := ∀ v ∈ vs, isName (.str v.1) = true ∧ v.2 ∈ srtS s
def nms : List Str := ["X", "Y", "Z", "A", "B7", "V0", "V1", "W999"]
theorem nms_ok : ∀ x ∈ nms, isName (.str x) = true := by decide +kernel
theorem vars_mem {s : Sg} : ∀ {ds : List D}, (∀ d ∈ ds, ∃ v : Str × Str, (isName (.str v.1) = true ∧ v.2 ∈ srtS s) ∧ d = varD v) → ∃ vs, ds = vs.map varD ∧ Kn s vs
  | [], _ => ⟨[], rfl, by intro v hv; simp at hv⟩
  | d :: ds, h => by
    obtain ⟨x, hx, rfl⟩ := h d List.mem_cons_self
    obtain ⟨xs, rfl, h2⟩ := vars_mem fun e he => h e (List.mem_cons_of_mem _ he)
    refine ⟨x :: xs, rfl, fun v hv => ?_⟩
    rcases List.mem_cons.mp hv with rfl | hv
    · exact hx
    · exact h2 v hv
theorem srtS_len {s : Sg} (h : Sm s) : (srtS s).length < 1000000 := by
  have key : ∀ l : List Str, (sortS l).length = l.length := by
    intro l
    induction l with
    | nil => rfl
    | cons x l ih =>
      rw [sortS, List.length_cons, ← ih]
      have : ∀ l, (insS x l).length = l.length + 1 := by
        intro l
        induction l with
        | nil => rfl
        | cons y l ih => rw [insS]; cases ltS y x <;> simp [ih]
      exact this _
  have key2 : ∀ l : List Str, (dedupS l).length ≤ l.length := by
    intro l
    induction l with
    | nil => exact Nat.le_refl _
    | cons x l ih =>
      rw [dedupS]
      by_cases h : x ∈ l
      · rw [if_pos h, List.length_cons]; omega
      · rw [if_neg h, List.length_cons, List.length_cons]; omega
  have := key2 (s.map (·.2.2))
  have h2 := h.rows
  rw [srtS, setS, key]
  simp at this
  omega
theorem c33 {k : Nat} (hk : 3 < k) {n m i : Nat} {b : Ob} {s : Sg} (g : Gs s) (h0 : s ≠ []) (hm : m ≤ 8) (st : List Ob) (hs : st[i]? = some b) (hb : Dk (n + 20) b) :
    ∃ (vs : List (Str × Str)) (b' : Ob), Kn s vs ∧ vs.length ≤ m ∧ Dk n b' ∧ calls tb k 31 [.o i, .d (sgD s), .d (.int m)] st = .ok (.f (.lst (vs.map varD))) (st.set i b') := by
  have hi := lt_of_get hs
  have hst : st = st.set i b := (set_self hs).symm
  have h32 : ∀ st, calls tb (k - 1) 30 [.d (sgD s)] st = .ok (.f (.lst ((srtS s).map .str))) st := fun st => c32 (by omega) g.toSm st
  have hne : srtS s ≠ [] := by
    obtain ⟨r, s', rfl⟩ := List.exists_cons_of_ne_nil h0
    intro e
    have : r.2.2 ∈ srtS (r :: s') := (mem_srtS _).mpr ⟨r, by simp, rfl⟩
    rw [e] at this
    simp at this
  obtain ⟨ys, b1, y1, y2, y3, e1⟩ := c28 (k := k - 1) (by omega) (n := n + 10) (m := m) (xs := nms.map .str) (by decide) (by omega) (st.set i b ++ [.lst ((srtS s).map .str)]) (g1 hi b _) (hb.mono (by omega))
  rw [g2 hi] at e1
  have hsrc : evI (calls tb (k - 1)) (.of (.call 26 (.cons (.var 0) (.cons (.lst (.cons (.dat (.str "X")) (.cons (.dat (.str "Y")) (.cons (.dat (.str "Z")) (.cons (.dat (.str "A")) (.cons (.dat (.str "B7")) (.cons (.dat (.str "V0")) (.cons (.dat (.str "V1")) (.cons (.dat (.str "W999")) .nil))))))))) (.cons (.var 2) .nil))))) [some (.o i), some (.d (sgD s)), some (.d (.int m)), some (.o st.length), none] (st.set i b ++ [.lst ((srtS s).map .str)]) = .ok (ys, none) (st.set i b1 ++ [.lst ((srtS s).map .str)]) := by
    refine evI_new' ?_
    simp [nms] at e1
    simp [toDs, e1]
  obtain ⟨ds, b2, l1, l2, l3, e2⟩ := comp_d (Φ := calls tb (k - 1)) (elt := .tup (.cons (.dat (.str "var")) (.cons (.var 4) (.cons (.call 25 (.cons (.var 0) (.cons (.var 3) .nil))) .nil)))) (tg := .name 4) (own := [4]) (n := n) (c := 1) (P := fun d => ∃ v : Str × Str, (isName (.str v.1) = true ∧ v.2 ∈ srtS s) ∧ d = varD v) hsrc (y3.mono (by omega)) (fun x hx m b hm => by
    obtain ⟨z, hz, rfl⟩ := List.mem_map.mp (y1 x hx)
    obtain ⟨d, b', hd, hb', e⟩ := d27o (k := k - 1) (by omega) (xs := (srtS s).map .str) (by simpa using hne) (by simpa using srtS_len g.toSm) st hi [.lst ((srtS s).map .str)] (n := m) hm (j := st.length) (by have := g3 st i b [.lst ((srtS s).map .str)] 0; simpa using this) (by omega)
    obtain ⟨y, hy, rfl⟩ := List.mem_map.mp hd
    exact ⟨_, .d (varD (z, y)), varD (z, y), b', rfl, ⟨(z, y), ⟨nms_ok z hz, hy⟩, rfl⟩, hb', by simp [wipeE, e, toDs, varD, tmD_var], rfl⟩)
  obtain ⟨vs, rfl, hv⟩ := vars_mem l2
  refine ⟨vs, b2, hv, by simp at l1; omega, l3, ?_⟩
  rw [calls_at (by omega) (fd := f31) rfl]
  refine callF_n (ex := []) (ex' := [.lst ((srtS s).map .str)]) (rs' := [.o i, .d (sgD s), .d (.int m)]) (env := [some (.o i), some (.d (sgD s)), some (.d (.int m)), none, none]) rfl (by simp) rfl (by simp) ?_
  rw [← hst] at e2
  simp [f31, h32, e2]
/-! ### terms of a sort -/
theorem asc_pw : ∀ {l : List Str}, asc l = true → l.Pairwise (fun a b => ltS a b = true)
  | [], _ => List.Pairwise.nil
  | [x], _ => by simp
  | x :: y :: l, h => by
    simp only [asc, List.drop_succ_cons, List.drop_zero] at h
    rw [List.zip_cons_cons, List.all_cons, Bool.and_eq_true] at h
    have h2 : (y :: l).Pairwise (fun a b => ltS a b = true) := asc_pw (by simpa [asc] using h.2)
    refine List.pairwise_cons.mpr ⟨fun z hz => ?_, h2⟩
    rcases List.mem_cons.mp hz with rfl | hz
    · exact h.1
    · exact ltS_trans h.1 ((List.pairwise_cons.mp h2).1 z hz)
theorem find_row {s : Sg} (g : Gs s) {r : Row} (hr : r ∈ s) : s.find? (fun q => decide (q.1 = r.1)) = some r := by
  have h := List.pairwise_map.mp (asc_pw g.asc)
  have key : ∀ s : Sg, s.Pairwise (fun a b => ltS a.1 b.1 = true) → r ∈ s → s.find? (fun q => decide (q.1 = r.1)) = some r := by
    intro s
    induction s with
    | nil => intro _ h; simp at h
    | cons q s ih =>
      intro h hr
      rw [List.pairwise_cons] at h
      rw [List.find?_cons]
      rcases List.mem_cons.mp hr with rfl | hr
      · simp
      · have : q.1 ≠ r.1 := by
          intro e
          have := h.1 r hr
          rw [e, ltS_irrefl] at this
          simp at this
        simp only [this, decide_false]
        exact ih h.2 hr
  exact key s h hr
/-- a term of a sort -/
inductive WT (s : Sg) : Tm → Str → Prop
  | var {x y : Str} : isName (.str x) = true → y ∈ allS s → WT s (.var x y) y
  | app {r : Row} {ts : List Tm} : r ∈ s → ts.length = r.2.1.length → (∀ p ∈ ts.zip r.2.1, WT s p.1 p.2) → WT s (.app r.1 ts) r.2.2
theorem zip_srt (s : Sg) : ∀ (ts : List Tm) (xs : List Str), ts.length = xs.length → (∀ p ∈ ts.zip xs, srt s (tmD p.1) = .str p.2) → (ts.map tmD).map (srt s) = xs.map .str
  | [], [], _, _ => rfl
  | t :: ts, x :: xs, h, k => by
    simp only [List.map_cons, List.cons.injEq]
    exact ⟨k (t, x) (by simp), zip_srt s ts xs (by simpa using h) fun p hp => k p (by simp [hp])⟩
theorem wt_srt {s : Sg} (g : Gs s) {t : Tm} {x : Str} (h : WT s t x) : srt s (tmD t) = .str x := by
  induction h with
  | @var x y h1 h2 =>
    have : isVar s (.str x) (.str y) = true := by simp [isVar, h1, isStr, h2]
    rw [tmD_var, srt, srtRow]
    simp [this]
  | @app r ts h1 h2 h3 ih =>
    rw [tmD_app, srt, srtRow]
    simp only [var_ne_app, app_ne_var, if_false, parts, srtAll_map, if_true, find_row g h1, zip_srt s ts r.2.1 h2 ih, eqvAll_strs, decide_true]
end K02

namespace K02
open PySem Ev Hd Pl
def f32_c0 : E := (.comp (.var 6) (.name 6) (.of (.var 4)) (.yes (.cmp .eq (.prim .idx (.cons (.var 6) (.cons (.dat (.int 2)) .nil))) (.var 2))) [6])
def f32_c1 : E := (.comp (.var 8) (.name 8) (.of (.var 1)) (.yes (.andE (.cmp .eq (.prim .idx (.cons (.var 8) (.cons (.dat (.int 2)) .nil))) (.var 2)) (.cmp .le (.prim .len (.cons (.prim .idx (.cons (.var 8) (.cons (.dat (.int 1)) .nil))) .nil)) (.prim .max2 (.cons (.dat (.int 0)) (.cons (.prim .idx (.cons (.var 3) (.cons (.dat (.int 0)) .nil))) .nil)))))) [8])
def f32_c2 : E := (.comp (.var 8) (.name 8) (.of (.var 7)) (.yes (.cmp .ne (.prim .idx (.cons (.var 8) (.cons (.dat (.int 1)) .nil))) (.tup .nil))) [8])
def f32_b0 : Ss := (.cons (.sub (.var 3) (.dat (.int 0)) (.prim .add (.cons (.prim .idx (.cons (.var 3) (.cons (.dat (.int 0)) .nil))) (.cons (.dat (.int 1)) .nil)))) (.cons (.expr (.meth .append (.var 10) (.call 32 (.cons (.var 0) (.cons (.var 1) (.cons (.var 11) (.cons (.var 3) (.cons (.var 4) .nil)))))))) .nil))
def f32_tl : Ss := match f32.body with
  | .cons _ ss => ss
  | .nil => .nil
theorem g6 {S : List Ob} {i j : Nat} (hj : j < S.length) (hij : i ≠ j) (b c : Ob) (L : List Ob) : (S.set i b ++ L).set j c = (S.set j c).set i b ++ L := by
  rw [List.set_append_left _ _ (by simpa using hj), List.set_comm _ _ hij]
theorem g7 {S : List Ob} {i j : Nat} (hij : i ≠ j) (b c c' : Ob) (L : List Ob) (hj : j < S.length) : ((S.set j c).set i b ++ L).set j c' = (S.set j c').set i b ++ L := by
  rw [g6 (by simpa using hj) hij, List.set_set]
/-- what a drawn term is, and what is left -/
def TmOk (s : Sg) (n r : Nat) (x : Str) (t : Tm) (r' : Nat) (b' : Ob) : Prop := WT s t x ∧ t.size + r' = r ∧ Dk (n + 6 * r') b'
def C34 (s : Sg) (vs : List (Str × Str)) (r : Nat) : Prop := ∀ {k : Nat} (_ : r + 3 ≤ k) {n i j m : Nat} {b : Ob} {x : Str} (_ : x ∈ allS s) (st : List Ob) (_ : st[i]? = some b) (_ : st[j]? = some (.lst [.int r])) (_ : st[m]? = some (.lst (vs.map varD))) (_ : i ≠ j) (_ : i ≠ m) (_ : j ≠ m) (_ : Dk (n + 6 * r) b),
  ∃ (t : Tm) (r' : Nat) (b' : Ob), TmOk s n r x t r' b' ∧ calls tb k 32 [.o i, .d (sgD s), .d (.str x), .o j, .o m] st = .ok (.d (tmD t)) ((st.set j (.lst [.int r'])).set i b')
/-- the arguments -/
theorem c34_args {s : Sg} (g : Gs s) {vs : List (Str × Str)} {ρ : Nat} (hρ : ρ ≤ 1000) (ih : ∀ r, 0 < r → r ≤ ρ → C34 s vs r) {k : Nat} (hk : ρ + 3 ≤ k) {n i j m : Nat} {x : Str} {S : List Ob} (hi : i < S.length) (hj : j < S.length) (hm : S[m]? = some (.lst (vs.map varD))) (hij : i ≠ j) (him : i ≠ m) (hjm : j ≠ m) (A B C : Ob) (v8 : Option R) :
    ∀ (ys ps : List Str) (ts : List Tm) (ρ' : Nat) (b : Ob) (v11 : Option R), (∀ y ∈ ys, y ∈ allS s) → ts.length = ps.length → (∀ p ∈ ts.zip ps, WT s p.1 p.2) → sizes ts + ρ' + ys.length = ρ → Dk (n + 6 * (ρ' + ys.length)) b →
    ∃ us ρ'' b' v11', us.length = (ps ++ ys).length ∧ (∀ p ∈ us.zip (ps ++ ys), WT s p.1 p.2) ∧ sizes us + ρ'' = ρ ∧ Dk (n + 6 * ρ'') b' ∧
      loopS (forB (calls tb k) (.name 11) f32_b0) none (ys.map .str) [some (.o i), some (.d (sgD s)), some (.d (.str x)), some (.o j), some (.o m), some (.o S.length), none, some (.o (S.length + 1)), v8, some (.o (S.length + 2)), some (.o (S.length + 3)), v11] ((S.set j (.lst [.int ρ'])).set i b ++ [A, B, C, .lst (ts.map tmD)])
      = .next [some (.o i), some (.d (sgD s)), some (.d (.str x)), some (.o j), some (.o m), some (.o S.length), none, some (.o (S.length + 1)), v8, some (.o (S.length + 2)), some (.o (S.length + 3)), v11'] ((S.set j (.lst [.int ρ''])).set i b' ++ [A, B, C, .lst (us.map tmD)])
  | [], ps, ts, ρ', b, v11, h1, h2, h3, h4, h5 => ⟨ts, ρ', b, v11, by simpa using h2, by simpa using h3, by simpa using h4, by simpa using h5, by simp⟩
  | y :: ys, ps, ts, ρ', b, v11, h1, h2, h3, h4, h5 => by
    rw [List.length_cons] at h4
    have hl : ∀ c, (S.set j c).length = S.length := fun c => by simp
    have hi' : ∀ c, i < (S.set j c).length := fun c => by simpa using hi
    have hm' := lt_of_get hm
    have hL3 : ∀ c b (L0 : List Ob) (l : List D), ((S.set j c).set i b ++ [A, B, C, .lst l])[S.length + 3]? = some (.lst l) := fun c b L0 l => by have := g3 (S.set j c) i b [A, B, C, .lst l] 3; simpa using this
    have hjj : ∀ c b L, ((S.set j c).set i b ++ L)[j]? = some c := fun c b L => by rw [g5 (by simpa using hj) hij, List.getElem?_set_self hj]
    obtain ⟨t, r', b', ⟨t1, t2, t3⟩, e⟩ := ih (ρ' + 1) (by omega) (by omega) (k := k) (by omega) (n := n + 6 * ys.length) (i := i) (j := j) (m := m) (b := b) (x := y) (h1 y (by simp)) ((S.set j (.lst [.int ((ρ' + 1 : Nat) : Int)])).set i b ++ [A, B, C, .lst (ts.map tmD)]) (g1 (hi' _) _ _) (hjj _ _ _) (by rw [g5 (by simpa using hm') him, List.getElem?_set_ne hjm, hm]) hij him hjm (h5.mono (by simp; omega))
    rw [g7 hij _ _ _ _ hj, g2 (hi' _)] at e
    have i0 := idx_o (j := 0) (d := .int ρ') (hjj (.lst [.int ρ']) b [A, B, C, .lst (ts.map tmD)]) rfl
    have s0 := sub_o (j := 0) (d := .int ((ρ' + 1 : Nat) : Int)) (hjj (.lst [.int ρ']) b [A, B, C, .lst (ts.map tmD)]) (by simp)
    rw [g7 hij _ _ _ _ hj] at s0
    have m1 := methOk_o (p := .append) (hL3 (.lst [.int ((ρ' + 1 : Nat) : Int)]) b [] (ts.map tmD)) (by simp)
    have a1 := app_o (r := .d (tmD t)) (d := tmD t) (hL3 (.lst [.int r']) b' [] (ts.map tmD)) rfl (by have := (sizes_mem ts).1; simp; omega)
    have e4 := g4 (S.set j (.lst [.int r'])) i b' [A, B, C, .lst (ts.map tmD)] 3 (.lst (ts.map tmD ++ [tmD t]))
    rw [hl] at e4
    rw [e4] at a1
    have hz : ∀ us : List Tm, sizes (us ++ [t]) = sizes us + t.size := by
      intro us
      induction us with
      | nil => simp [sizes]
      | cons u us ih => rw [List.cons_append, sizes, sizes, ih]; omega
    obtain ⟨us, ρ'', b'', v11', u1, u2, u3, u4, u5⟩ := c34_args (n := n) g hρ ih hk hi hj hm hij him hjm A B C v8 ys (ps ++ [y]) (ts ++ [t]) r' b' (some (.d (.str y))) (fun z hz => h1 z (by simp [hz])) (by simp [h2]) (fun p hp => by
      rw [List.zip_append h2] at hp
      rcases List.mem_append.mp hp with hp | hp
      · exact h3 p hp
      · simp at hp
        rw [hp]
        exact t1) (by rw [hz]; omega) (t3.mono (by omega))
    refine ⟨us, ρ'', b'', v11', by simpa using u1, by simpa using u2, u3, u4, ?_⟩
    rw [List.map_cons, loopS_next ?_ (same_none _ _), u5]
    rw [forB_eq rfl]
    simp at i0 s0 m1 a1 e
    simp [f32_b0, primF, i0, addF, s0, m1, e, a1]
end K02

namespace K02
open PySem Ev Hd Pl
theorem ne_nil {st : List Ob} {q : Nat} {l : List D} (h : st[q]? = some (.lst l)) : cmpF .ne (.o q) (.f (.lst [])) st = .ok (.d (.bool (!l.isEmpty))) st := by
  have : nowD st (.o q) = some (.list l) := by simp [nowD, h]
  simp [cmpF, bothD, this]
theorem eq_nil {st : List Ob} {q : Nat} {l : List D} (h : st[q]? = some (.lst l)) : cmpF .eq (.o q) (.f (.lst [])) st = .ok (.d (.bool l.isEmpty)) st := by
  have : nowD st (.o q) = some (.list l) := by simp [nowD, h]
  simp [cmpF, bothD, this]
theorem isEmpty_map {α β : Type} (f : α → β) (l : List α) : (l.map f).isEmpty = l.isEmpty := by cases l <;> rfl
/-- a known variable of the sort -/
theorem pick_var {s : Sg} {vs : List (Str × Str)} (hv : Kn s vs) (hvl : vs.length ≤ 1000) {k : Nat} (hk : 1 < k) {n i : Nat} {x : Str} {S : List Ob} (hi : i < S.length) (L : List Ob) (ha : vs.filter (fun v => decide (v.2 = x)) ≠ []) (hL : L[0]? = some (.lst ((vs.filter (fun v => decide (v.2 = x))).map varD))) {b : Ob} (hb : Dk (n + 1) b) :
    ∃ (t : Tm) (b' : Ob), WT s t x ∧ t.size = 1 ∧ Dk n b' ∧ calls tb k 25 [.o i, .o S.length] (S.set i b ++ L) = .ok (.d (tmD t)) (S.set i b' ++ L) := by
  obtain ⟨d, b', hd, hb', e⟩ := d27o hk (xs := (vs.filter (fun v => decide (v.2 = x))).map varD) (by simpa using ha) (by have := List.length_filter_le (fun v : Str × Str => decide (v.2 = x)) vs; simp; omega) S hi L hb (j := S.length) (by have := g3 S i b L 0; simpa [hL] using this) (by omega)
  obtain ⟨v, hm, rfl⟩ := List.mem_map.mp hd
  obtain ⟨h1, h2⟩ := List.mem_filter.mp hm
  have h2 : v.2 = x := by simpa using h2
  obtain ⟨h3, h4⟩ := hv v h1
  refine ⟨.var v.1 v.2, b', ?_, by rw [Tm.size], hb', e⟩
  rw [← h2]
  refine WT.var h3 ?_
  obtain ⟨r, hr, e⟩ := (mem_srtS _).mp h4
  rw [← e]
  exact sort_mem hr
theorem c34_tail {s : Sg} (g : Gs s) {vs : List (Str × Str)} (hv : Kn s vs) (hvl : vs.length ≤ 1000) {ρ : Nat} (hρ : ρ ≤ 1000) (ih : ∀ r, 0 < r → r ≤ ρ → C34 s vs r) {k : Nat} (hk : ρ + 3 ≤ k) {n i j m : Nat} {x : Str} (hx : x ∈ allS s) {S : List Ob} {b : Ob} (hi : S[i]? = some b) (hj : S[j]? = some (.lst [.int ρ])) (hm : S[m]? = some (.lst (vs.map varD))) (hij : i ≠ j) (him : i ≠ m) (hjm : j ≠ m) (hb : Dk (n + 6 * ρ + 6) b) :
    ∃ (t : Tm) (r' : Nat) (b' : Ob) (ex : List Ob), TmOk s n (ρ + 1) x t r' b' ∧ exSs (calls tb k) f32_tl [some (.o i), some (.d (sgD s)), some (.d (.str x)), some (.o j), some (.o m), none, none, none, none, none, none, none] S = .ret (.d (tmD t)) ((S.set j (.lst [.int r'])).set i b' ++ ex) := by
  have hi' := lt_of_get hi
  have hj' := lt_of_get hj
  have hm' := lt_of_get hm
  have hS : S = S.set i b := (set_self hi).symm
  have hSj : S.set j (.lst [.int ρ]) = S := set_self hj
  obtain ⟨A, hA⟩ : ∃ A, A = vs.filter fun v => decide (v.2 = x) := ⟨_, rfl⟩
  obtain ⟨Q, hR⟩ : ∃ Q, Q = s.filter fun r => decide (r.2.2 = x) && decide (r.2.1.length ≤ ρ) := ⟨_, rfl⟩
  obtain ⟨W, hW⟩ : ∃ W, W = Q.filter fun r => !r.2.1.isEmpty := ⟨_, rfl⟩
  have w1 : evE (calls tb k) f32_c0 [some (.o i), some (.d (sgD s)), some (.d (.str x)), some (.o j), some (.o m), none, none, none, none, none, none, none] S = .ok (.f (.lst (A.map varD))) S := by
    rw [hA]
    refine cfilter (l := vs) (F := varD) (h := varD) (g := some m) (evI_obj (i := m) (by simp) hm) fun v _ => ⟨_, .d (varD v), rfl, ?_, by simp [wipeE], rfl⟩
    simp [wipeE, varD, primF, cmp_eq_ss]
  have w2 : ∀ b1 (v6 : Option R), evE (calls tb k) f32_c1 [some (.o i), some (.d (sgD s)), some (.d (.str x)), some (.o j), some (.o m), some (.o S.length), v6, none, none, none, none, none] (S.set i b1 ++ [.lst (A.map varD)]) = .ok (.f (.lst (Q.map rowD))) (S.set i b1 ++ [.lst (A.map varD)]) := fun b1 v6 => by
    rw [hR]
    refine cfilter (l := s) (F := rowD) (h := rowD) (g := none) (evI_tuple (by simp [sgD])) fun r _ => ⟨_, .d (rowD r), rfl, ?_, by simp [wipeE], rfl⟩
    have i0 := idx_o (st := S.set i b1 ++ [.lst (A.map varD)]) (i := j) (j := 0) (xs := [.int ρ]) (d := .int ρ) (by rw [g5 hj' hij, hj]) rfl
    have hmx : (if 0 < ρ then (ρ : Int) else 0) = ρ := by split <;> omega
    simp at i0
    simp [wipeE, primF, cmp_eq_ss, cmp_le_ii, i0, intF, hmx]
  have w3 : ∀ b1 (v6 v8 : Option R), evE (calls tb k) f32_c2 [some (.o i), some (.d (sgD s)), some (.d (.str x)), some (.o j), some (.o m), some (.o S.length), v6, some (.o (S.length + 1)), v8, none, none, none] (S.set i b1 ++ [.lst (A.map varD), .lst (Q.map rowD)]) = .ok (.f (.lst (W.map rowD))) (S.set i b1 ++ [.lst (A.map varD), .lst (Q.map rowD)]) := fun b1 v6 v8 => by
    rw [hW]
    refine cfilter (l := Q) (F := rowD) (h := rowD) (g := some (S.length + 1)) (evI_obj (i := S.length + 1) (by simp) (by rw [g3]; rfl)) fun r _ => ⟨_, .d (rowD r), rfl, ?_, by simp [wipeE], rfl⟩
    simp [wipeE, primF, cmpF, isEmpty_map, toDs]
  -- a variable at once
  have s3 : (∃ (t : Tm) (b' : Ob), WT s t x ∧ t.size = 1 ∧ Dk (n + 6 * ρ) b' ∧ exS (calls tb k) (.ite (.andE (.cmp .ne (.var 5) (.lst .nil)) (.cmp .eq (.call 24 (.cons (.var 0) (.cons (.dat (.int 4)) .nil))) (.dat (.int 0)))) (.cons (.ret (.call 25 (.cons (.var 0) (.cons (.var 5) .nil)))) .nil) .nil) [some (.o i), some (.d (sgD s)), some (.d (.str x)), some (.o j), some (.o m), some (.o S.length), none, none, none, none, none, none] (S.set i b ++ [.lst (A.map varD)]) = .ret (.d (tmD t)) (S.set i b' ++ [.lst (A.map varD)]))
      ∨ (∃ b', Dk (n + 6 * ρ + 4) b' ∧ exS (calls tb k) (.ite (.andE (.cmp .ne (.var 5) (.lst .nil)) (.cmp .eq (.call 24 (.cons (.var 0) (.cons (.dat (.int 4)) .nil))) (.dat (.int 0)))) (.cons (.ret (.call 25 (.cons (.var 0) (.cons (.var 5) .nil)))) .nil) .nil) [some (.o i), some (.d (sgD s)), some (.d (.str x)), some (.o j), some (.o m), some (.o S.length), none, none, none, none, none, none] (S.set i b ++ [.lst (A.map varD)]) = .next [some (.o i), some (.d (sgD s)), some (.d (.str x)), some (.o j), some (.o m), some (.o S.length), none, none, none, none, none, none] (S.set i b' ++ [.lst (A.map varD)])) := by
    have hn := ne_nil (st := S.set i b ++ [.lst (A.map varD)]) (q := S.length) (l := A.map varD) (by have := g3 S i b [Ob.lst (A.map varD)] 0; simpa using this)
    by_cases h0 : A = []
    · refine .inr ⟨b, hb.mono (by omega), ?_⟩
      have h0' : A.isEmpty = true := by rw [h0]; rfl
      simp [hn, toDs, isEmpty_map, h0']
    · obtain ⟨v, b1, hv1, hb1, e1⟩ := d26 (k := k) (by omega) (many := 4) (by omega) (by omega) S hi' [.lst (A.map varD)] (n := n + 6 * ρ + 5) hb
      have h0' : A.isEmpty = false := by
        cases A with
        | nil => exact absurd rfl h0
        | cons _ _ => rfl
      by_cases hv0 : v = 0
      · obtain ⟨t, b2, t1, t2, t3, e2⟩ := pick_var hv hvl (k := k) (by omega) (n := n + 6 * ρ + 4) (x := x) hi' [.lst (A.map varD)] (hA ▸ h0) (by rw [hA]; rfl) hb1
        refine .inl ⟨t, b2, t1, t2, t3.mono (by omega), ?_⟩
        simp [hn, toDs, h0', e1, hv0, cmp_eq_ii, isEmpty_map, e2]
      · refine .inr ⟨b1, hb1.mono (by omega), ?_⟩
        simp [hn, toDs, h0', e1, hv0, cmp_eq_ii, isEmpty_map]
  rcases s3 with ⟨t, b', t1, t2, t3, e3⟩ | ⟨b1, hb1, e3⟩
  · refine ⟨t, ρ, b', [.lst (A.map varD)], ⟨t1, by omega, t3⟩, ?_⟩
    rw [hSj]
    rw [← hS] at e3
    simp only [f32_c0] at w1
    simp [f32_tl, f32, w1, e3]
  -- a variable, as nothing is wide
  have s6 : (∃ (t : Tm) (b' : Ob), WT s t x ∧ t.size = 1 ∧ Dk (n + 6 * ρ) b' ∧ exS (calls tb k) (.ite (.andE (.cmp .eq (.var 9) (.lst .nil)) (.andE (.cmp .ne (.var 5) (.lst .nil)) (.cmp .eq (.call 24 (.cons (.var 0) (.cons (.dat (.int 2)) .nil))) (.dat (.int 0))))) (.cons (.ret (.call 25 (.cons (.var 0) (.cons (.var 5) .nil)))) .nil) .nil) [some (.o i), some (.d (sgD s)), some (.d (.str x)), some (.o j), some (.o m), some (.o S.length), none, some (.o (S.length + 1)), none, some (.o (S.length + 2)), none, none] (S.set i b1 ++ [.lst (A.map varD), .lst (Q.map rowD), .lst (W.map rowD)]) = .ret (.d (tmD t)) (S.set i b' ++ [.lst (A.map varD), .lst (Q.map rowD), .lst (W.map rowD)]))
      ∨ (∃ b', Dk (n + 6 * ρ + 2) b' ∧ exS (calls tb k) (.ite (.andE (.cmp .eq (.var 9) (.lst .nil)) (.andE (.cmp .ne (.var 5) (.lst .nil)) (.cmp .eq (.call 24 (.cons (.var 0) (.cons (.dat (.int 2)) .nil))) (.dat (.int 0))))) (.cons (.ret (.call 25 (.cons (.var 0) (.cons (.var 5) .nil)))) .nil) .nil) [some (.o i), some (.d (sgD s)), some (.d (.str x)), some (.o j), some (.o m), some (.o S.length), none, some (.o (S.length + 1)), none, some (.o (S.length + 2)), none, none] (S.set i b1 ++ [.lst (A.map varD), .lst (Q.map rowD), .lst (W.map rowD)]) = .next [some (.o i), some (.d (sgD s)), some (.d (.str x)), some (.o j), some (.o m), some (.o S.length), none, some (.o (S.length + 1)), none, some (.o (S.length + 2)), none, none] (S.set i b' ++ [.lst (A.map varD), .lst (Q.map rowD), .lst (W.map rowD)])) := by
    have hn := ne_nil (st := S.set i b1 ++ [.lst (A.map varD), .lst (Q.map rowD), .lst (W.map rowD)]) (q := S.length) (l := A.map varD) (by have := g3 S i b1 [.lst (A.map varD), .lst (Q.map rowD), .lst (W.map rowD)] 0; simpa using this)
    have he := eq_nil (st := S.set i b1 ++ [.lst (A.map varD), .lst (Q.map rowD), .lst (W.map rowD)]) (q := S.length + 2) (l := W.map rowD) (by rw [g3]; rfl)
    cases hw : W.isEmpty with
    | false => exact .inr ⟨b1, hb1.mono (by omega), by simp [he, toDs, isEmpty_map, hw]⟩
    | true =>
      cases ha : A.isEmpty with
      | true => exact .inr ⟨b1, hb1.mono (by omega), by simp [he, hn, toDs, isEmpty_map, hw, ha]⟩
      | false =>
        have h0 : A ≠ [] := by rintro rfl; simp at ha
        obtain ⟨v, b2, hv1, hb2, e1⟩ := d26 (k := k) (by omega) (many := 2) (by omega) (by omega) S hi' [.lst (A.map varD), .lst (Q.map rowD), .lst (W.map rowD)] (n := n + 6 * ρ + 3) hb1
        by_cases hv0 : v = 0
        · obtain ⟨t, b3, t1, t2, t3, e2⟩ := pick_var hv hvl (k := k) (by omega) (n := n + 6 * ρ + 2) (x := x) hi' [.lst (A.map varD), .lst (Q.map rowD), .lst (W.map rowD)] (hA ▸ h0) (by rw [hA]; rfl) hb2
          refine .inl ⟨t, b3, t1, t2, t3.mono (by omega), ?_⟩
          simp [hn, he, toDs, ha, hw, e1, hv0, cmp_eq_ii, isEmpty_map, e2]
        · refine .inr ⟨b2, hb2.mono (by omega), ?_⟩
          simp [hn, he, toDs, ha, hw, e1, hv0, cmp_eq_ii, isEmpty_map]
  rcases s6 with ⟨t, b', t1, t2, t3, e6⟩ | ⟨b2, hb2, e6⟩
  · refine ⟨t, ρ, b', [.lst (A.map varD), .lst (Q.map rowD), .lst (W.map rowD)], ⟨t1, by omega, t3⟩, ?_⟩
    rw [hSj]
    rw [← hS] at e3
    simp only [f32_c0] at w1
    simp only [f32_c1] at w2
    simp only [f32_c2] at w3
    simp [f32_tl, f32, w1, e3, w2, w3, e6]
  -- the row
  have hRm : ∀ q ∈ Q, q ∈ s ∧ q.2.2 = x ∧ q.2.1.length ≤ ρ := fun q hq => by
    rw [hR, List.mem_filter] at hq
    simpa using hq
  have hR0 : Q ≠ [] := by
    obtain ⟨q, h1, h2, h3⟩ := g.con x hx
    intro e
    have : q ∈ Q := by rw [hR, List.mem_filter]; simp [h1, h2, h3]
    rw [e] at this
    simp at this
  have hRl : Q.length ≤ 9 := by rw [hR]; exact Nat.le_trans (List.length_filter_le _ _) g.rows
  have hWl : W.length ≤ 9 := by rw [hW]; exact Nat.le_trans (List.length_filter_le _ _) hRl
  have hWR : ∀ q ∈ W, q ∈ Q := fun q hq => by rw [hW] at hq; exact (List.mem_filter.mp hq).1
  obtain ⟨q, b4, hq, hb4, e7⟩ : ∃ q b4, q ∈ Q ∧ Dk (n + 6 * ρ) b4 ∧ evE (calls tb k) (.call 25 (.cons (.var 0) (.cons (.ite (.andE (.cmp .ne (.var 9) (.lst .nil)) (.cmp .gt (.call 24 (.cons (.var 0) (.cons (.dat (.int 6)) .nil))) (.dat (.int 0)))) (.var 9) (.var 7)) .nil))) [some (.o i), some (.d (sgD s)), some (.d (.str x)), some (.o j), some (.o m), some (.o S.length), none, some (.o (S.length + 1)), none, some (.o (S.length + 2)), none, none] (S.set i b2 ++ [.lst (A.map varD), .lst (Q.map rowD), .lst (W.map rowD)]) = .ok (.d (rowD q)) (S.set i b4 ++ [.lst (A.map varD), .lst (Q.map rowD), .lst (W.map rowD)]) := by
    have he := ne_nil (st := S.set i b2 ++ [.lst (A.map varD), .lst (Q.map rowD), .lst (W.map rowD)]) (q := S.length + 2) (l := W.map rowD) (by rw [g3]; rfl)
    cases hw : W.isEmpty with
    | true =>
      obtain ⟨d, b3, hd, hb3, e1⟩ := d27o (k := k) (by omega) (xs := Q.map rowD) (by simpa using hR0) (by simp; omega) S hi' [.lst (A.map varD), .lst (Q.map rowD), .lst (W.map rowD)] (n := n + 6 * ρ + 1) hb2 (j := S.length + 1) (by rw [g3]; rfl) (by omega)
      obtain ⟨q, hq, rfl⟩ := List.mem_map.mp hd
      exact ⟨q, b3, hq, hb3.mono (by omega), by simp [he, toDs, isEmpty_map, hw, e1]⟩
    | false =>
      have h0 : W ≠ [] := by rintro rfl; simp at hw
      obtain ⟨v, b3, hv1, hb3, e1⟩ := d26 (k := k) (by omega) (many := 6) (by omega) (by omega) S hi' [.lst (A.map varD), .lst (Q.map rowD), .lst (W.map rowD)] (n := n + 6 * ρ + 1) hb2
      by_cases hv0 : v = 0
      · obtain ⟨d, b5, hd, hb5, e2⟩ := d27o (k := k) (by omega) (xs := Q.map rowD) (by simpa using hR0) (by simp; omega) S hi' [.lst (A.map varD), .lst (Q.map rowD), .lst (W.map rowD)] (n := n + 6 * ρ) hb3 (j := S.length + 1) (by rw [g3]; rfl) (by omega)
        obtain ⟨q, hq, rfl⟩ := List.mem_map.mp hd
        exact ⟨q, b5, hq, hb5, by simp [he, toDs, isEmpty_map, hw, e1, hv0, cmp_gt_ii, e2]⟩
      · obtain ⟨d, b5, hd, hb5, e2⟩ := d27o (k := k) (by omega) (xs := W.map rowD) (by simpa using h0) (by simp; omega) S hi' [.lst (A.map varD), .lst (Q.map rowD), .lst (W.map rowD)] (n := n + 6 * ρ) hb3 (j := S.length + 2) (by rw [g3]; rfl) (by omega)
        obtain ⟨q, hq, rfl⟩ := List.mem_map.mp hd
        have hv0' : (0 : Int) < v := by omega
        have hv2 : 0 < v := by omega
        exact ⟨q, b5, hWR q hq, hb5, by simp [he, toDs, isEmpty_map, hw, e1, hv0', hv2, cmp_gt_ii, e2]⟩
  obtain ⟨q1, q2, q3⟩ := hRm q hq
  obtain ⟨us, ρ'', b5, v11, u1, u2, u3, u4, e10⟩ := c34_args (n := n) g hρ ih hk (x := x) hi' hj' hm hij him hjm (.lst (A.map varD)) (.lst (Q.map rowD)) (.lst (W.map rowD)) (some (.d (rowD q))) q.2.1 [] [] (ρ - q.2.1.length) b4 none (fun y hy => allS_mem.mpr ⟨q, q1, .inl hy⟩) rfl (by simp) (by simp [sizes]; omega) (hb4.mono (by omega))
  rw [List.nil_append] at u1 u2
  have wt : WT s (.app q.1 us) q.2.2 := WT.app q1 u1 u2
  refine ⟨.app q.1 us, ρ'', b5, [.lst (A.map varD), .lst (Q.map rowD), .lst (W.map rowD), .lst (us.map tmD)], ⟨q2 ▸ wt, by rw [Tm.size]; omega, u4⟩, ?_⟩
  have i0 := idx_o (st := S.set i b4 ++ [.lst (A.map varD), .lst (Q.map rowD), .lst (W.map rowD)]) (i := j) (j := 0) (xs := [.int ρ]) (d := .int ρ) (by rw [g5 hj' hij, hj]) rfl
  have s0 := sub_o (st := S.set i b4 ++ [.lst (A.map varD), .lst (Q.map rowD), .lst (W.map rowD)]) (i := j) (j := 0) (xs := [.int ρ]) (d := .int ((ρ - q.2.1.length : Nat) : Int)) (by rw [g5 hj' hij, hj]) (by simp)
  rw [g6 hj' hij, show ((ρ - q.2.1.length : Nat) : Int) = (ρ : Int) - q.2.1.length by omega] at s0
  rw [show ((ρ - q.2.1.length : Nat) : Int) = (ρ : Int) - q.2.1.length by omega] at e10
  have hit : ∀ st, evI (calls tb k) (.of (.prim .idx (.cons (.var 8) (.cons (.dat (.int 1)) .nil)))) [some (.o i), some (.d (sgD s)), some (.d (.str x)), some (.o j), some (.o m), some (.o S.length), none, some (.o (S.length + 1)), some (.d (rowD q)), some (.o (S.length + 2)), some (.o (S.length + 3)), none] st = .ok (q.2.1.map .str, none) st := fun st => evI_tuple (by simp [primF])
  have htu : ∀ st L, primF .tuple [.o (S.length + 3)] ((S.set j (.lst [.int st])).set i b5 ++ [.lst (A.map varD), .lst (Q.map rowD), .lst (W.map rowD), .lst L]) = .ok (.d (.tuple L)) ((S.set j (.lst [.int st])).set i b5 ++ [.lst (A.map varD), .lst (Q.map rowD), .lst (W.map rowD), .lst L]) := fun st L => by
    have h1 := g3 (S.set j (.lst [.int st])) i b5 [.lst (A.map varD), .lst (Q.map rowD), .lst (W.map rowD), .lst L] 3
    simp only [List.length_set] at h1
    have : seqOf ((S.set j (.lst [.int st])).set i b5 ++ [.lst (A.map varD), .lst (Q.map rowD), .lst (W.map rowD), .lst L]) (.o (S.length + 3)) = some L := by simp [seqOf, lstOf, h1]
    simp only [primF, this]
  rw [← hS] at e3
  simp only [f32_c0] at w1
  simp only [f32_c1] at w2
  simp only [f32_c2] at w3
  simp only [f32_b0] at e10
  simp at i0 s0 e10
  have psub : ∀ a b st, primF .sub [.d (.int a), .d (.int b)] st = .ok (.d (.int (a - b))) st := fun a b st => rfl
  have pidx : ∀ a b st, primF .idx [a, b] st = idxF a b st := fun a b st => rfl
  have plen : ∀ xs st, primF .len [.d (.tuple xs)] st = .ok (.d (.int xs.length)) st := fun xs st => rfl
  simp [f32_tl, f32, w1, e3, w2, w3, e6, e7, pidx, psub, plen, i0, s0, toDs, hit, e10, htu, tmD_app]
end K02

namespace K02
open PySem Ev Hd Pl
theorem f32_eq : f32.body = .cons (.sub (.var 3) (.dat (.int 0)) (.prim .sub (.cons (.prim .idx (.cons (.var 3) (.cons (.dat (.int 0)) .nil))) (.cons (.dat (.int 1)) .nil)))) f32_tl := rfl
theorem c34_body {s : Sg} (g : Gs s) {vs : List (Str × Str)} (hv : Kn s vs) (hvl : vs.length ≤ 1000) {ρ : Nat} (hρ : ρ ≤ 1000) (ih : ∀ r, 0 < r → r ≤ ρ → C34 s vs r) {k : Nat} (hk : ρ + 3 ≤ k) {n i j m : Nat} {x : Str} (hx : x ∈ allS s) {S : List Ob} {b : Ob} (hi : S[i]? = some b) (hj : S[j]? = some (.lst [.int ((ρ + 1 : Nat) : Int)])) (hm : S[m]? = some (.lst (vs.map varD))) (hij : i ≠ j) (him : i ≠ m) (hjm : j ≠ m) (hb : Dk (n + 6 * (ρ + 1)) b) :
    ∃ (t : Tm) (r' : Nat) (b' : Ob) (ex : List Ob), TmOk s n (ρ + 1) x t r' b' ∧ exSs (calls tb k) f32.body [some (.o i), some (.d (sgD s)), some (.d (.str x)), some (.o j), some (.o m), none, none, none, none, none, none, none] S = .ret (.d (tmD t)) ((S.set j (.lst [.int r'])).set i b' ++ ex) := by
  obtain ⟨t, r', b', ex, h1, h2⟩ := c34_tail g hv hvl hρ ih hk (n := n) (i := i) (j := j) (m := m) (S := S.set j (.lst [.int ρ])) (b := b) hx (by rw [List.getElem?_set_ne (by omega), hi]) (List.getElem?_set_self (lt_of_get hj)) (by rw [List.getElem?_set_ne hjm, hm]) hij him hjm (hb.mono (by omega))
  refine ⟨t, r', b', ex, h1, ?_⟩
  rw [List.set_set] at h2
  have i0 := idx_o (j := 0) (d := .int ((ρ + 1 : Nat) : Int)) hj rfl
  have s0 := sub_o (j := 0) (d := .int ρ) hj (by simp)
  have e : ((ρ + 1 : Nat) : Int) - 1 = ρ := by omega
  have psub : ∀ a b st, primF .sub [.d (.int a), .d (.int b)] st = .ok (.d (.int (a - b))) st := fun a b st => rfl
  have pidx : ∀ a b st, primF .idx [a, b] st = idxF a b st := fun a b st => rfl
  rw [f32_eq, exSs_cons]
  simp only [exS_sub, evE_prim, evEs_cons, evE_var, evE_dat, rs_ok, evEs_nil, pidx, psub, List.getElem?_cons_zero, List.getElem?_cons_succ, fl_ok]
  simp at i0 s0 e
  simp [i0, psub, e, s0]
  exact h2
theorem c34_all {s : Sg} (g : Gs s) {vs : List (Str × Str)} (hv : Kn s vs) (hvl : vs.length ≤ 1000) : ∀ r, 0 < r → r ≤ 1000 → C34 s vs r := by
  intro r
  induction r using Nat.strongRecOn with
  | _ r ih =>
  intro h0 h1 k hk n i j m b x hx st hi hj hm hij him hjm hb
  obtain ⟨ρ, rfl⟩ : ∃ ρ, r = ρ + 1 := ⟨r - 1, by omega⟩
  obtain ⟨t, r', b', ex, h2, h3⟩ := c34_body g hv hvl (ρ := ρ) (by omega) (fun q hq hq2 => ih q (by omega) hq (by omega)) (k := k - 1) (by omega) hx hi hj hm hij him hjm hb
  refine ⟨t, r', b', h2, ?_⟩
  rw [calls_at (by omega) (fd := f32) rfl]
  exact callF_x (ex := []) (ex' := ex) (rs' := [.o i, .d (sgD s), .d (.str x), .o j, .o m]) (env := [some (.o i), some (.d (sgD s)), some (.d (.str x)), some (.o j), some (.o m), none, none, none, none, none, none, none]) rfl (by simp) rfl (by simp) (by rw [List.append_nil]; exact h3)
/-- with a room just made -/
theorem c34f {s : Sg} (g : Gs s) {vs : List (Str × Str)} (hv : Kn s vs) (hvl : vs.length ≤ 1000) {r : Nat} (h0 : 0 < r) (h1 : r ≤ 1000) {k : Nat} (hk : r + 3 ≤ k) {n i m : Nat} {b : Ob} {x : Str} (hx : x ∈ allS s) (st : List Ob) (hi : st[i]? = some b) (hm : st[m]? = some (.lst (vs.map varD))) (him : i ≠ m) (hb : Dk (n + 6 * r) b) :
    ∃ (t : Tm) (b' : Ob), WT s t x ∧ t.size ≤ r ∧ Dk n b' ∧ calls tb k 32 [.o i, .d (sgD s), .d (.str x), .f (.lst [.int r]), .o m] st = .ok (.d (tmD t)) (st.set i b') := by
  obtain ⟨ρ, rfl⟩ : ∃ ρ, r = ρ + 1 := ⟨r - 1, by omega⟩
  have hi' := lt_of_get hi
  have hm' := lt_of_get hm
  obtain ⟨t, r', b', ex, ⟨h2, h4, h5⟩, h3⟩ := c34_body g hv hvl (ρ := ρ) (by omega) (fun q hq hq2 => c34_all g hv hvl q hq (by omega)) (k := k - 1) (by omega) (i := i) (j := st.length) (m := m) (n := n) (S := st ++ [.lst [.int ((ρ + 1 : Nat) : Int)]]) hx (get_app hi _) (by simp) (get_app hm _) (by omega) him (by omega) hb
  refine ⟨t, b', h2, by omega, h5.mono (by omega), ?_⟩
  rw [calls_at (by omega) (fd := f32) rfl]
  refine callF_x (ex := [.lst [.int ((ρ + 1 : Nat) : Int)]]) (ex' := .lst [.int r'] :: ex) (rs' := [.o i, .d (sgD s), .d (.str x), .o st.length, .o m]) (env := [some (.o i), some (.d (sgD s)), some (.d (.str x)), some (.o st.length), some (.o m), none, none, none, none, none, none, none]) rfl (by simp) rfl (by simp) ?_
  rw [h3]
  congr 1
  rw [List.set_append_right _ _ (by omega), List.set_append_left _ _ (by omega)]
  simp
end K02

namespace K02
open PySem Ev Hd Pl
/-! ### places of the law's own -/
/-! ### what leads where -/
theorem mem_plcs (q : List Nat) : ∀ (ts : List Tm) (k : Nat), q ∈ plcs k ts ↔ ∃ (j : Nat) (t : Tm) (p : List Nat), ts[j]? = some t ∧ q = (k + j) :: p ∧ p ∈ plc t
  | [], k => by simp [plcs]
  | t :: ts, k => by
    rw [plcs, List.mem_append, mem_plcs q ts (k + 1), List.mem_map]
    constructor
    · rintro (⟨p, hp, rfl⟩ | ⟨j, u, p, h1, rfl, h3⟩)
      · exact ⟨0, t, p, rfl, rfl, hp⟩
      · exact ⟨j + 1, u, p, by simpa using h1, by congr 1; omega, h3⟩
    · rintro ⟨j, u, p, h1, rfl, h3⟩
      cases j with
      | zero =>
        simp at h1
        subst h1
        exact .inl ⟨p, h3, rfl⟩
      | succ j => exact .inr ⟨j, u, p, by simpa using h1, by congr 1; omega, h3⟩
theorem mem_plc : ∀ (p : List Nat) (t : Tm), p ∈ plc t ↔ (atP t p).isSome = true
  | [], t => by cases t <;> simp [plc, atP]
  | k :: p, .var x s => by simp [plc, atP]
  | k :: p, .app f ts => by
    rw [plc, atP, List.mem_cons, mem_plcs]
    constructor
    · rintro (h | ⟨j, u, q, h1, h2, h3⟩)
      · simp at h
      · rw [List.cons.injEq] at h2
        obtain ⟨rfl, rfl⟩ := h2
        rw [Nat.zero_add, h1]
        exact (mem_plc p u).mp h3
    · intro h
      cases e : ts[k]? with
      | none => rw [e] at h; simp at h
      | some u =>
        rw [e] at h
        exact .inr ⟨k, u, p, e, by simp, (mem_plc p u).mpr h⟩
theorem fits_at : ∀ (p : List Nat) (t : Tm), fitsI t (p.map fun (n : Nat) => (n : Int)) = (atP t p).isSome
  | [], t => by cases t <;> simp [fitsI, atP]
  | k :: p, .var x s => by simp [fitsI, atP]
  | k :: p, .app f ts => by
    rw [List.map_cons, fitsI, atP, if_pos (by omega)]
    simp only [Int.toNat_natCast]
    cases e : ts[k]? with
    | none => rfl
    | some u => exact fits_at p u
theorem fits_nat : ∀ (is : List Int) (t : Tm), fitsI t is = true → ∃ p : List Nat, is = p.map fun (n : Nat) => (n : Int)
  | [], t, _ => ⟨[], rfl⟩
  | i :: is, .var x s, h => by simp [fitsI] at h
  | i :: is, .app f ts, h => by
    rw [fitsI] at h
    by_cases h0 : 0 ≤ i
    · rw [if_pos h0] at h
      cases e : ts[i.toNat]? with
      | none => rw [e] at h; simp at h
      | some u =>
        rw [e] at h
        obtain ⟨p, rfl⟩ := fits_nat is u h
        exact ⟨i.toNat :: p, by rw [List.map_cons, Int.toNat_of_nonneg h0]⟩
    · rw [if_neg h0] at h
      simp at h
theorem plD_ints (p : List Nat) : plD p = .tuple ((p.map fun (n : Nat) => (n : Int)).map .int) := by simp [plD]
theorem fitsD_at {t : Tm} (p : List Nat) : fitsD t (plD p) = (atP t p).isSome := by
  rw [plD_ints, fitsD, all_isInt, intsOf_map, fits_at, Bool.true_and]
/-- what fits, by the law's own -/
def isInts : D → Bool
  | .tuple ds => ds.all Ev.isInt
  | _ => false
def lawFits (t : Tm) (d : D) : Bool := isInts d && (plc t).any fun p => PyData.eqv (plD p) d
theorem lawFits_of {t : Tm} {d : D} (h : fitsD t d = true) : lawFits t d = true := by
  cases d with
  | tuple ds =>
    rw [fitsD, Bool.and_eq_true] at h
    obtain ⟨is, rfl⟩ := map_ints h.1
    have h2 := h.2
    rw [intsOf_map] at h2
    obtain ⟨p, rfl⟩ := fits_nat is t h2
    rw [fits_at] at h2
    rw [lawFits, isInts, h.1, Bool.true_and, List.any_eq_true]
    exact ⟨p, (mem_plc p t).mpr h2, by rw [plD_ints, eqv_tt, eqvAll_ints]; simp⟩
  | _ => simp [fitsD] at h
theorem plD_depth (p : List Nat) : (plD p).depth ≤ 1 := by
  rw [plD_ints, PyData.depth, depth_ints]
  exact Nat.le_refl _
end K02

namespace K02
open PySem Ev Hd Pl
def f36_c0 : E := (.comp (.var 4) (.name 4) (.of (.var 0)) (.yes (.cmp .eq (.prim .idx (.cons (.var 4) (.cons (.dat (.int 0)) .nil))) (.prim .idx (.cons (.var 1) (.cons (.dat (.int 1)) .nil))))) [4])
def f36_c1 : E := (.comp (.call 36 (.cons (.var 0) (.cons (.var 5) .nil))) (.name 5) (.of (.prim .idx (.cons (.var 1) (.cons (.dat (.int 2)) .nil)))) .no [5])
theorem head_find {α : Type} (p : α → Bool) : ∀ l : List α, (l.filter p).head? = l.find? p
  | [] => rfl
  | x :: l => by
    rw [List.filter_cons, List.find?_cons]
    cases p x with
    | true => rfl
    | false => exact head_find p l
theorem rows_cases (s : Sg) (f : Str) : (∃ r l, s.filter (fun r => decide (r.1 = f)) = r :: l ∧ s.find? (fun r => decide (r.1 = f)) = some r) ∨ (s.filter (fun r => decide (r.1 = f)) = [] ∧ s.find? (fun r => decide (r.1 = f)) = none) := by
  have h := head_find (fun r : Row => decide (r.1 = f)) s
  cases e : s.filter (fun r => decide (r.1 = f)) with
  | nil => rw [e] at h; exact .inr ⟨rfl, h.symm⟩
  | cons r l => rw [e] at h; exact .inl ⟨r, l, rfl, h.symm⟩
theorem idx_f0 (x : D) (l : List D) (st : List Ob) : idxF (.f (.lst (x :: l))) (.d (.int 0)) st = .ok (.d x) st := by
  have : L2.atI (x :: l) 0 = some x := by simp [L2.atI, L2.ixN]
  simp [idxF, idxS, dicOf, this]
theorem c39 {k : Nat} (hk : 0 < k) (d : D) (st : List Ob) : calls tb k 35 [.d d] st = .ok (.d (.bool (isName d))) st := by
  rw [calls_at hk (fd := f35) rfl]
  refine callF_d rfl rfl ?_
  cases d with
  | str x =>
    have w : ∀ st, evE (calls tb (k - 1)) (.prim .all (.cons (.comp (.cmp .isin (.var 1) (.dat (.str "0123456789"))) (.name 1) (.of (.slc (.var 0) (.yes (.dat (.int 1))) .no)) .no [1]) .nil)) [some (.d (.str x)), none] st = .ok (.d (.bool (allIn digS (x.cps.toList.drop 1)))) st := fun st => by
      refine allcomp (evI_str (z := ⟨(x.cps.toList.drop 1).toArray⟩) (by simp [slcF, cut1])) fun c _ => ⟨_, rfl, ?_⟩
      simp [wipeE, cmpF, cmpF.inF, dicOf, seqOf, lstOf, Str.length, digS]
      exact decide_eq_decide.mpr Iff.rfl
    show exSs (calls tb (k - 1)) f35.body [some (.d (.str x)), none] st = _
    by_cases h : (1 : Int) ≤ x.length ∧ (x.length : Int) ≤ 4
    · have h1 : (0 : Int) < x.length := by omega
      have h2 : (x.length : Int) < 5 := by omega
      have h3 : 0 < x.length := by omega
      have h4 : x.length < 5 := by omega
      simp [f35, w, primF, isaD, lenOf, seqOf, cmpF, isName, h, h1, h2, h3, h4, cmpOk, ltD, idx_str0 (x := x) (by omega), cmpF.inF, dicOf, lstOf, bigS]
      simp [Str.length]
      congr 5
    · by_cases h1 : 0 < x.length
      · have h2 : ¬ x.length < 5 := by omega
        have h5 : (5 : Int) ≤ x.length := by omega
        simp [f35, h5, w, primF, isaD, lenOf, seqOf, cmpF, isName, h, h1, h2, cmpOk, ltD]
      · simp [f35, w, primF, isaD, lenOf, seqOf, cmpF, isName, h, h1, cmpOk, ltD]
  | _ => rfl
/-- whether neither place is above the other -/
def apart (p q : List Nat) : Bool := !decide (p.take (min p.length q.length) = q.take (min p.length q.length))
theorem map_int_inj : ∀ {p q : List Nat}, (p.map fun (n : Nat) => (n : Int)) = (q.map fun (n : Nat) => (n : Int)) → p = q
  | [], [], _ => rfl
  | [], _ :: _, h => by simp at h
  | _ :: _, [], h => by simp at h
  | a :: p, b :: q, h => by
    simp only [List.map_cons, List.cons.injEq] at h
    rw [map_int_inj h.2, show a = b by omega]
theorem eqv_pl (p q : List Nat) : PyData.eqv (plD p) (plD q) = decide (p = q) := by
  rw [plD_ints, plD_ints, eqv_tt, eqvAll_ints]
  exact decide_eq_decide.mpr ⟨map_int_inj, fun h => by rw [h]⟩
/-! ### the sort of anything, by the law's own -/
theorem srtS_allS {s : Sg} (g : Gs s) (z : Str) : z ∈ srtS s ↔ z ∈ allS s := by
  rw [mem_srtS]
  constructor
  · rintro ⟨r, hr, rfl⟩
    exact sort_mem hr
  · intro h
    obtain ⟨q, h1, _, h3⟩ := g.con z h
    exact ⟨q, h1, h3⟩
theorem c40 {s : Sg} (g : Gs s) : ∀ (n : Nat) (d : D), d.depth ≤ n → ∀ {k : Nat} (hk : n + 3 ≤ k) (st : List Ob), calls tb k 36 [.d (sgD s), .d d] st = .ok (.d (srt s d)) st := by
  intro n
  induction n using Nat.strongRecOn with
  | _ n ih =>
  intro d hd k hk st
  have pidx : ∀ a b st, primF .idx [a, b] st = idxF a b st := fun a b st => rfl
  have plen : ∀ xs st, primF .len [.d (.tuple xs)] st = .ok (.d (.int xs.length)) st := fun xs st => rfl
  have pt : ∀ xs st, primF (.isa [.tuple]) [.d (.tuple xs)] st = .ok (.d (.bool true)) st := fun xs st => rfl
  have ps : ∀ x st, primF (.isa [.str]) [.d (.str x)] st = .ok (.d (.bool true)) st := fun xs st => rfl
  have plst : ∀ xs st, primF .list [.d (.tuple xs)] st = .ok (.f (.lst xs)) st := fun xs st => rfl
  rw [calls_at (by omega) (fd := f36) rfl]
  cases hr : isRow 3 d with
  | false =>
    refine callF_d rfl rfl ?_
    show exSs (calls tb (k - 1)) f36.body [some (.d (sgD s)), some (.d d), none, none, none, none] st = _
    cases d with
    | tuple xs =>
      have e : srt s (.tuple xs) = .none := by
        rw [srt]
        unfold srtRow
        split
        · simp [isRow] at hr
        · rfl
      have hl : ¬ ((xs.length : Int) = 3) := by simp [isRow] at hr; omega
      have hl' : ¬ (xs.length = 3) := by omega
      simp [f36, pt, plen, cmpF, hl, hl', e]
    | _ => rw [srt] <;> simp [f36, primF, isaD]
  | true =>
    obtain ⟨a, b, c, rfl⟩ := isRow3 hr
    cases a with
    | str h =>
      cases b with
      | str f =>
        by_cases hv : h = "var"
        · subst hv
          refine callF_d rfl rfl ?_
          show exSs (calls tb (k - 1)) f36.body [some (.d (sgD s)), some (.d (.tuple [.str "var", .str f, c])), none, none, none, none] st = _
          have h39 : ∀ st, calls tb (k - 1) 35 [.d (.str f)] st = .ok (.d (.bool (isName (.str f)))) st := fun st => c39 (by omega) _ st
          have h32 : ∀ st, calls tb (k - 1) 30 [.d (sgD s)] st = .ok (.f (.lst ((srtS s).map .str))) st := fun st => c32 (by omega) g.toSm st
          cases hn : isName (.str f) with
          | false => simp [f36, pt, plen, ps, pidx, idx3_0, idx3_1, idx3_2, cmp_eq_ss, cmpF, h39, hn, srt, srtRow, isVar]
          | true =>
            cases c with
            | str z =>
              have hin : ∀ st, cmpF .isin (.d (.str z)) (.f (.lst ((srtS s).map .str))) st = .ok (.d (.bool (decide (z ∈ srtS s)))) st := fun st => by
                simp only [cmpF, cmpF.inF, dicOf_fl, seqOf_f, dok_sl, if_true, any_strs, okB_eq, Bool.false_bne]
              have hne3 : ∀ st, cmpF .ne (.d (.int 3)) (.d (.int 3)) st = .ok (.d (.bool false)) st := fun st => by simp [cmpF]
              have hvv : isVar s (.str f) (.str z) = decide (z ∈ srtS s) := by
                rw [isVar, hn, isStr]
                simp only [Bool.true_and]
                have := any_strs z (setS (allS s))
                rw [List.any_map] at this
                simp only [Function.comp_def] at this
                rw [this]
                exact decide_eq_decide.mpr (by rw [srtS_allS g, mem_setS])
              by_cases hz : z ∈ srtS s <;> simp [f36, pt, plen, ps, pidx, idx3_0, idx3_1, idx3_2, cmp_eq_ss, hne3, h39, hn, h32, hin, hz, srt, srtRow, hvv]
            | _ => simp [f36, pt, plen, ps, pidx, idx3_0, idx3_1, idx3_2, cmp_eq_ss, cmpF, h39, hn, srt, srtRow, isVar, primF, isaD, isStr]
        · have w : ∀ st, evE (calls tb (k - 1)) f36_c0 [some (.d (sgD s)), some (.d (.tuple [.str h, .str f, c])), none, none, none, none] st = .ok (.f (.lst ((s.filter fun q => decide (q.1 = f)).map rowD))) st := fun st => by
            refine cfilter (l := s) (F := rowD) (h := rowD) (g := none) (evI_tuple (by simp [sgD])) fun q _ => ⟨_, .d (rowD q), rfl, ?_, ?_, rfl⟩
            · simp [wipeE, pidx, idx3_1, cmp_eq_ss]
            · simp [wipeE]
          refine callF_x (ex := []) (ex' := [.lst ((s.filter fun q => decide (q.1 = f)).map rowD)]) (rs' := [.d (sgD s), .d (.tuple [.str h, .str f, c])]) (env := [some (.d (sgD s)), some (.d (.tuple [.str h, .str f, c])), none, none, none, none]) rfl (by simp) rfl rfl ?_
          have hne3 : ∀ st, cmpF .ne (.d (.int 3)) (.d (.int 3)) st = .ok (.d (.bool false)) st := fun st => by simp [cmpF]
          have hnv : ∀ st, cmpF .eq (.d (.str h)) (.d (.str "var")) st = .ok (.d (.bool false)) st := fun st => by rw [cmp_eq_ss, decide_eq_false hv]
          simp only [f36_c0] at w
          by_cases ha : h = "app"
          · subst ha
            have hna : ∀ st, cmpF .ne (.d (.str "app")) (.d (.str "app")) st = .ok (.d (.bool false)) st := fun st => by rw [cmp_ne_ss, decide_eq_true rfl]; rfl
            cases c with
            | tuple us =>
              rcases rows_cases s f with ⟨r, l, e1, e2⟩ | ⟨e1, e2⟩
              · rw [e1] at w ⊢
                simp only [List.map_cons] at w ⊢
                have he : cmpF .eq (.o st.length) (.f (.lst [])) (st ++ [.lst (rowD r :: l.map rowD)]) = .ok (.d (.bool false)) (st ++ [.lst (rowD r :: l.map rowD)]) := by
                  rw [eq_nil (l := rowD r :: l.map rowD) (by simp)]
                  rfl
                have hix : idxF (.o st.length) (.d (.int 0)) (st ++ [.lst (rowD r :: l.map rowD)]) = .ok (.d (rowD r)) (st ++ [.lst (rowD r :: l.map rowD)]) := idx_o (j := 0) (xs := rowD r :: l.map rowD) (by simp) rfl
                have hd' : PyData.depthAll us + 2 ≤ n := by
                  simp [PyData.depth, PyData.depthAll] at hd
                  omega
                have hcm : ∀ (v2 v4 : Option R) st', evE (calls tb (k - 1)) f36_c1 [some (.d (sgD s)), some (.d (.tuple [.str "app", .str f, .tuple us])), v2, some (.o st.length), v4, none] st' = .ok (.f (.lst (us.map (srt s)))) st' := fun v2 v4 st' => by
                  refine cmap (l := us) (F := id) (g := none) (evI_tuple (by simp [pidx, idx3_2])) fun p hp => ⟨_, .d (srt s p), rfl, ?_, rfl⟩
                  have hm := depth_mem hp
                  have h40 : ∀ st, calls tb (k - 1) 36 [.d (sgD s), .d p] st = .ok (.d (srt s p)) st := fun st => ih (n - 1) (by omega) p (by omega) (by omega) st
                  simp [wipeE, h40]
                have hdk : depthOk (.list (us.map (srt s))) (.list (r.2.1.map .str)) = true := dok_of (.inr (by rw [PyData.depth, depth_strs]; omega))
                have hne : ∀ st, cmpF .ne (.f (.lst (us.map (srt s)))) (.f (.lst (r.2.1.map .str))) st = .ok (.d (.bool (!PyData.eqvAll (us.map (srt s)) (r.2.1.map .str)))) st := fun st => by
                  simp only [cmpF, bothD_ff, hdk, if_true, eqv_ll, okB_eq]
                simp only [f36_c1] at hcm
                by_cases hl : r.2.1.length = us.length
                · have hnl : ∀ st, cmpF .ne (.d (.int r.2.1.length)) (.d (.int us.length)) st = .ok (.d (.bool false)) st := fun st => by simp [cmpF, hl]
                  rw [hl] at hnl
                  cases he2 : PyData.eqvAll (us.map (srt s)) (r.2.1.map .str) with
                  | true =>
                    rw [he2] at hne
                    simp [f36, pt, plen, ps, pidx, plst, idx3_0, idx3_1, idx3_2, hne3, hnv, hna, w, he, hix, hnl, hl, toDs, hcm, hne, srt, srtRow, parts, srtAll_map, hv, e2, he2]
                  | false =>
                    rw [he2] at hne
                    simp [f36, pt, plen, ps, pidx, plst, idx3_0, idx3_1, idx3_2, hne3, hnv, hna, w, he, hix, hnl, hl, toDs, hcm, hne, srt, srtRow, parts, srtAll_map, hv, e2, he2]
                · have hnl : ∀ st, cmpF .ne (.d (.int r.2.1.length)) (.d (.int us.length)) st = .ok (.d (.bool true)) st := fun st => by simp [cmpF]; omega
                  have e3 : PyData.eqvAll (us.map (srt s)) (r.2.1.map .str) = false := eqvAll_len (by simpa using fun e => hl e.symm)
                  simp [f36, pt, plen, ps, pidx, plst, idx3_0, idx3_1, idx3_2, hne3, hnv, hna, w, he, hix, hnl, toDs, srt, srtRow, parts, srtAll_map, hv, e2, e3]
              · rw [e1] at w ⊢
                simp only [List.map_nil] at w ⊢
                have he : cmpF .eq (.o st.length) (.f (.lst [])) (st ++ [.lst []]) = .ok (.d (.bool true)) (st ++ [.lst []]) := by
                  rw [eq_nil (l := []) (by simp)]
                  rfl
                simp [f36, pt, plen, ps, pidx, plst, idx3_0, idx3_1, idx3_2, hne3, hnv, hna, w, he, toDs, srt, srtRow, parts, hv, e2]
            | _ => simp [f36, pt, plen, ps, pidx, idx3_0, idx3_1, idx3_2, hne3, hnv, hna, w, srt, srtRow, parts, hv, primF, isaD]
          · have hna : ∀ st, cmpF .ne (.d (.str h)) (.d (.str "app")) st = .ok (.d (.bool true)) st := fun st => by rw [cmp_ne_ss, decide_eq_false ha]; rfl
            have e : srtRow s [.str h, .str f, c] = .none := by
              rw [srtRow, if_neg hv]
              cases parts s c <;> simp [ha]
            simp [f36, pt, plen, ps, pidx, idx3_0, idx3_1, idx3_2, hne3, hnv, hna, w, srt, e]
      | _ =>
        refine callF_d rfl rfl ?_
        simp [f36, startE, primF, idx3_0, idx3_1, idx3_2, isaD, cmpF, srt, srtRow, isVar, isName]
        cases parts s c <;> simp
    | _ =>
      refine callF_d rfl rfl ?_
      simp [f36, startE, primF, idx3_0, idx3_1, idx3_2, isaD, cmpF, srt, srtRow]
end K02

namespace K02
open PySem Ev Hd Pl
/-! ### the same -/
mutual
/-- ints, texts, tuples of such, not long -/
def pl : D → Bool
  | .int _ => true
  | .str _ => true
  | .tuple xs => decide (xs.length ≤ 1000) && plAll xs
  | _ => false
def plAll : List D → Bool
  | [] => true
  | x :: xs => pl x && plAll xs
end
theorem plAll_mem {xs : List D} : plAll xs = true ↔ ∀ x ∈ xs, pl x = true := by
  induction xs with
  | nil => simp [plAll]
  | cons x xs ih => simp [plAll, ih]
theorem pl_tuple {xs : List D} : pl (.tuple xs) = true ↔ xs.length ≤ 1000 ∧ ∀ x ∈ xs, pl x = true := by
  rw [pl, Bool.and_eq_true, plAll_mem, decide_eq_true_eq]
theorem c29 : ∀ (n : Nat) (d : D), d.depth ≤ n → pl d = true → n ≤ 140 → ∀ {k : Nat} (hk : n < k) (st : List Ob), calls tb k 27 [.d d, .d d] st = .ok (.d (.bool true)) st := by
  intro n
  induction n using Nat.strongRecOn with
  | _ n ih =>
  intro d hd hp hn k hk st
  have pidx : ∀ a b st, primF .idx [a, b] st = idxF a b st := fun a b st => rfl
  rw [calls_at (by omega) (fd := f27) rfl]
  refine callF_d rfl rfl ?_
  show exSs (calls tb (k - 1)) f27.body [some (.d d), some (.d d), none] st = _
  cases d with
  | tuple xs =>
    obtain ⟨hl, hm⟩ := pl_tuple.mp hp
    have hdp : PyData.depthAll xs + 1 ≤ n := by rw [PyData.depth] at hd; omega
    have w : ∀ st, evE (calls tb (k - 1)) (.prim .all (.cons (.comp (.call 27 (.cons (.prim .idx (.cons (.var 0) (.cons (.var 2) .nil))) (.cons (.prim .idx (.cons (.var 1) (.cons (.var 2) .nil))) .nil))) (.name 2) (.range1 (.prim .len (.cons (.var 1) .nil))) .no [2]) .nil)) [some (.d (.tuple xs)), some (.d (.tuple xs)), none] st = .ok (.d (.bool true)) st := fun st => by
      rw [allcomp (l := List.range xs.length) (F := fun (k : Nat) => PyData.int (k : Int)) (g := none) (p := fun _ => true) (evI_range (by simp [primF]) (by omega)) fun q hq => ⟨_, rfl, ?_⟩]
      · simp
      · have hq' : q < xs.length := by simpa using hq
        have hi : ∀ st, idxF (.d (.tuple xs)) (.d (.int q)) st = .ok (.d xs[q]) st := fun st => idx_nat (by simp [hq']) st
        have hx := List.getElem_mem hq'
        have := depth_mem hx
        have h29 : ∀ st, calls tb (k - 1) 27 [.d xs[q], .d xs[q]] st = .ok (.d (.bool true)) st := fun st => ih (n - 1) (by omega) xs[q] (by omega) (hm _ hx) (by omega) (by omega) st
        simp [wipeE, pidx, hi, h29]
    have p1 : ∀ st, primF (.isa [.tuple, .list]) [.d (.tuple xs)] st = .ok (.d (.bool true)) st := fun st => rfl
    have p2 : ∀ st, primF (.isa [.tuple]) [.d (.tuple xs)] st = .ok (.d (.bool true)) st := fun st => rfl
    have p3 : ∀ st, primF (.isa [.list]) [.d (.tuple xs)] st = .ok (.d (.bool false)) st := fun st => rfl
    have p4 : ∀ st, primF .len [.d (.tuple xs)] st = .ok (.d (.int xs.length)) st := fun st => rfl
    have q1 : ∀ b st, cmpF .ne (.d (.bool b)) (.d (.bool b)) st = .ok (.d (.bool false)) st := fun b st => by cases b <;> simp [cmpF]
    have q3 : ∀ st, cmpF .eq (.d (.int (xs.length : Int))) (.d (.int (xs.length : Int))) st = .ok (.d (.bool true)) st := fun st => by rw [cmp_eq_ii, decide_eq_true rfl]
    simp [f27, p1, p2, p3, p4, q1, q3, w]
  | int i =>
    have q : cmpF .eq (.d (.int i)) (.d (.int i)) st = .ok (.d (.bool true)) st := by rw [cmp_eq_ii, decide_eq_true rfl]
    have q' : cmpF .isN (.d (.int i)) (.d .none) st = .ok (.d (.bool false)) st := rfl
    simp [f27, primF, isaD, q, q']
  | str x =>
    have q : cmpF .eq (.d (.str x)) (.d (.str x)) st = .ok (.d (.bool true)) st := by rw [cmp_eq_ss, decide_eq_true rfl]
    have q' : cmpF .isN (.d (.str x)) (.d .none) st = .ok (.d (.bool false)) st := rfl
    simp [f27, primF, isaD, q, q']
  | _ => simp [pl] at hp
theorem pl_tm : ∀ (t : Tm), t.size ≤ 1000 → pl (tmD t) = true := by
  intro t
  induction t using Tm.ind with
  | hv x s => intro _; rw [tmD_var]; simp [pl, plAll]
  | ha f ts ih =>
    intro h
    rw [Tm.size] at h
    have h1 := sizes_mem ts
    rw [tmD_app]
    simp only [pl, plAll, List.length_cons, List.length_nil, Bool.true_and, Bool.and_true, Bool.and_eq_true, decide_eq_true_eq, List.length_map, plAll_mem]
    refine ⟨by omega, by omega, fun d hd => ?_⟩
    obtain ⟨t, ht, rfl⟩ := List.mem_map.mp hd
    exact ih t ht (by have := h1.2 t ht; omega)
theorem pl_pl {p : List Nat} (h : p.length ≤ 1000) : pl (plD p) = true := by
  rw [plD, pl_tuple]
  refine ⟨by simpa using h, fun d hd => ?_⟩
  obtain ⟨n, _, rfl⟩ := List.mem_map.mp hd
  rfl
theorem pl_plcs {t : Tm} (h : t.size ≤ 1000) : pl (.tuple ((plc t).map plD)) = true := by
  rw [pl_tuple]
  refine ⟨by rw [List.length_map, plc_len]; exact h, fun d hd => ?_⟩
  obtain ⟨p, hp, rfl⟩ := List.mem_map.mp hd
  have := plc_dep t p hp
  have := dep_le_size t
  exact pl_pl (by omega)
theorem depth_plcs (t : Tm) : (PyData.tuple ((plc t).map plD)).depth ≤ 2 := by
  rw [PyData.depth]
  have := depthAll_le (n := 1) (xs := (plc t).map plD) (by
    intro x hx
    obtain ⟨p, _, rfl⟩ := List.mem_map.mp hx
    exact plD_depth p)
  omega
/-! ### the words of the errors -/
def word : Option Nat → Str
  | none => "none"
  | some 0 => "signature"
  | some 1 => "term"
  | some 2 => "place"
  | _ => "part"
/-- how a call ends -/
def Out (o : Option Nat) (r : Rs R) (st : List Ob) : Prop := match o with
  | none => ∃ v, r = .ok v st
  | some c => c < 4 ∧ r = .exc c st
end K02

namespace K02
open PySem Ev Hd Pl
/-! ### bent values -/
/-- what is bent: a datum, or a list just made -/
def Bnt (r : R) (e : D) : Prop := r = .d e ∨ ∃ xs, r = .f (.lst xs) ∧ e = .list xs
theorem Bnt.toD {r : R} {e : D} (h : Bnt r e) : toD r = some e := by
  rcases h with rfl | ⟨xs, rfl, rfl⟩ <;> rfl
theorem depth_take (l : List D) (n : Nat) : PyData.depthAll (l.take n) ≤ PyData.depthAll l := depthAll_le fun x hx => depth_mem (List.mem_of_mem_take hx)
theorem depth_drop (l : List D) (n : Nat) : PyData.depthAll (l.drop n) ≤ PyData.depthAll l := depthAll_le fun x hx => depth_mem (List.mem_of_mem_drop hx)
theorem depth_app (a b : List D) : PyData.depthAll (a ++ b) = max (PyData.depthAll a) (PyData.depthAll b) := by
  induction a with
  | nil => simp [PyData.depthAll]
  | cons x a ih => rw [List.cons_append, PyData.depthAll, ih, PyData.depthAll, Nat.max_assoc]
theorem depth_one (x : D) : PyData.depthAll [x] = x.depth := by simp [PyData.depthAll]
structure Odd (odd : List D) : Prop where
  ne : odd ≠ []
  len : odd.length ≤ 1000
  dep : ∀ x ∈ odd, x.depth ≤ 2
  tl : ∀ x ∈ odd, ∀ ps, x = .tuple ps → ps.length ≤ 1001
theorem c41 {odd : List D} (ho : Odd odd) : ∀ (m : Nat) (d : D), d.depth ≤ m → pl d = true → ∀ {k : Nat} (hk : m + 2 < k) {n i j : Nat} {b : Ob} (st : List Ob) (hi : st[i]? = some b) (hj : st[j]? = some (.lst odd)) (hij : i ≠ j) (hb : Dk (n + 4 * (m + 1)) b),
    ∃ (r : R) (e : D) (b' : Ob), Bnt r e ∧ (e.depth ≤ m + 2 ∧ ∀ ps, e = .tuple ps → ps.length ≤ 1001) ∧ Dk n b' ∧ calls tb k 37 [.o i, .d d, .o j] st = .ok r (st.set i b') := by
  intro m
  induction m using Nat.strongRecOn with
  | _ m ih =>
  intro d hd hp k hk n i j b st hi hj hij hb
  have hi' := lt_of_get hi
  have hst : st = st.set i b := (set_self hi).symm
  have hj' : ∀ b, (st.set i b)[j]? = some (.lst odd) := fun b => by rw [List.getElem?_set_ne hij, hj]
  have pick : ∀ {q : Nat} {b : Ob}, Dk (q + 1) b → ∃ (x : D) (b' : Ob), (x.depth ≤ 2 ∧ ∀ ps, x = .tuple ps → ps.length ≤ 1001) ∧ Dk q b' ∧ calls tb (k - 1) 25 [.o i, .o j] (st.set i b) = .ok (.d x) (st.set i b') := fun {q b} hb => by
    obtain ⟨x, b', h1, h2, h3⟩ := d27o (k := k - 1) (by omega) ho.ne (by have := ho.len; omega) st hi' [] hb (j := j) (by rw [List.append_nil]; exact hj' b) hij
    simp only [List.append_nil] at h3
    exact ⟨x, b', ⟨ho.dep x h1, ho.tl x h1⟩, h2, h3⟩
  rw [calls_at (by omega) (fd := f37) rfl]
  by_cases ht : ∃ x xs, d = .tuple (x :: xs)
  · obtain ⟨x, xs, rfl⟩ := ht
    obtain ⟨l, hl⟩ : ∃ l, l = x :: xs := ⟨_, rfl⟩
    rw [← hl] at hd hp ⊢
    obtain ⟨pl1, pl2⟩ := pl_tuple.mp hp
    rw [PyData.depth] at hd
    have hlp : 0 < l.length := by rw [hl]; simp
    have pt : ∀ st, primF (.isa [.tuple]) [.d (.tuple l)] st = .ok (.d (.bool true)) st := fun st => rfl
    have plen : ∀ st, primF .len [.d (.tuple l)] st = .ok (.d (.int l.length)) st := fun st => rfl
    have padd : ∀ a b st, primF .add [a, b] st = addF a b st := fun a b st => rfl
    have pidx : ∀ a b st, primF .idx [a, b] st = idxF a b st := fun a b st => rfl
    have pls : ∀ st, primF .list [.d (.tuple l)] st = .ok (.f (.lst l)) st := fun st => rfl
    have hem : ∀ st, cmpF .eq (.d (.tuple l)) (.d (.tuple [])) st = .ok (.d (.bool false)) st := fun st => by rw [hl]; simp [cmpF]
    obtain ⟨v, b1, hv, hb1, e1⟩ := d26 (k := k - 1) (by omega) (many := 5) (by omega) (by omega) st hi' [] (n := n + 4 * m + 3) (hb.mono (by omega))
    simp only [List.append_nil] at e1
    rw [← hst] at e1
    by_cases hv0 : v = 0
    · subst hv0
      obtain ⟨y, b2, hy, hb2, e2⟩ := pick (q := n + 4 * m + 2) hb1
      refine ⟨.d y, y, b2, .inl rfl, ⟨by omega, hy.2⟩, hb2.mono (by omega), ?_⟩
      refine callF_x (ex := []) (ex' := []) (rs' := [.o i, .d (.tuple l), .o j]) (env := [some (.o i), some (.d (.tuple l)), some (.o j), none, none]) rfl (by simp) rfl (by simp) ?_
      have hz : ∀ st, cmpF .eq (.d (.int 0)) (.d (.int 0)) st = .ok (.d (.bool true)) st := fun st => by rw [cmp_eq_ii, decide_eq_true rfl]
      simp at e1
      simp [f37, pt, toDs, hem, e1, hz, e2]
    · have hv5 : ∀ st, cmpF .eq (.d (.int v)) (.d (.int 0)) st = .ok (.d (.bool false)) st := fun st => by rw [cmp_eq_ii, decide_eq_false (by omega)]
      obtain ⟨u, b2, hu, hb2, e2⟩ := d26 (k := k - 1) (by omega) (many := (l.length : Int)) (by omega) (by omega) st hi' [] (n := n + 4 * m + 2) hb1
      obtain ⟨w, b3, hw, hb3, e3⟩ := d26 (k := k - 1) (by omega) (many := 7) (by omega) (by omega) st hi' [] (n := n + 4 * m + 1) hb2
      simp only [List.append_nil] at e2 e3
      have hu' : u < l.length := by omega
      have hc1 : ∀ st, slcF (.d (.tuple l)) none (some (u : Int)) st = .ok (.d (.tuple (l.take u))) st := fun st => by rw [slcF, cut_nat]
      have hc2 : ∀ st, slcF (.d (.tuple l)) (some (u : Int)) none st = .ok (.d (.tuple (l.drop u))) st := fun st => by rw [slcF, cut_from]
      have hc3 : ∀ st, slcF (.d (.tuple l)) (some ((u : Int) + 1)) none st = .ok (.d (.tuple (l.drop (u + 1)))) st := fun st => by rw [show (u : Int) + 1 = ((u + 1 : Nat) : Int) by omega, slcF, cut_from]
      have hix : ∀ st, idxF (.d (.tuple l)) (.d (.int u)) st = .ok (.d l[u]) st := fun st => idx_nat (by simp [hu']) st
      have hmx := List.getElem_mem hu'
      have hdx := depth_mem hmx
      have ai : ∀ (a b : Int) st, addF (.d (.int a)) (.d (.int b)) st = .ok (.d (.int (a + b))) st := fun a b st => rfl
      have at' : ∀ (a b : List D) st, a.length + b.length ≤ 5000 → addF (.d (.tuple a)) (.d (.tuple b)) st = .ok (.d (.tuple (a ++ b))) st := fun a b st h => by simp only [addF]; rw [if_pos (by omega)]
      have q : ∀ (c : Nat), w ≠ c → ∀ st, cmpF .eq (.d (.int w)) (.d (.int c)) st = .ok (.d (.bool false)) st := fun c h st => by rw [cmp_eq_ii, decide_eq_false (by omega)]
      have hrs : allocs [.o i, .d (.tuple l), .o j] st = ([.o i, .d (.tuple l), .o j], st ++ []) := by simp
      have d1 := depth_take l u
      have d2 := depth_drop l u
      have d3 := depth_drop l (u + 1)
      by_cases w0 : w = 0
      · have q0 : ∀ st, cmpF .eq (.d (.int w)) (.d (.int 0)) st = .ok (.d (.bool true)) st := fun st => by rw [cmp_eq_ii, decide_eq_true (by omega)]
        have hA : ∀ st, addF (.d (.tuple (l.take u))) (.d (.tuple (l.drop (u + 1)))) st = .ok (.d (.tuple (l.take u ++ l.drop (u + 1)))) st := fun st => at' _ _ st (by simp; omega)
        refine ⟨.d (.tuple (l.take u ++ l.drop (u + 1))), _, b3, .inl rfl, ⟨by rw [PyData.depth, depth_app]; omega, fun ps e => by
          injection e with e
          subst e
          simp
          omega⟩, hb3.mono (by omega), ?_⟩
        refine callF_x (ex := []) (ex' := []) (env := [some (.o i), some (.d (.tuple l)), some (.o j), none, none]) rfl hrs rfl (by simp) ?_
        simp [f37, pt, toDs, hem, e1, hv5, plen, e2, e3, parSet, q0, hc1, hc3, padd, ai, hA]
      have q0 := q 0 w0
      by_cases w1 : w = 1
      · have q1 : ∀ st, cmpF .eq (.d (.int w)) (.d (.int 1)) st = .ok (.d (.bool true)) st := fun st => by rw [cmp_eq_ii, decide_eq_true (by omega)]
        have hA : ∀ st, addF (.d (.tuple (l.take u))) (.d (.tuple [l[u]])) st = .ok (.d (.tuple (l.take u ++ [l[u]]))) st := fun st => at' _ _ st (by simp; omega)
        have hB : ∀ st, addF (.d (.tuple (l.take u ++ [l[u]]))) (.d (.tuple (l.drop u))) st = .ok (.d (.tuple (l.take u ++ [l[u]] ++ l.drop u))) st := fun st => at' _ _ st (by simp; omega)
        refine ⟨.d (.tuple (l.take u ++ [l[u]] ++ l.drop u)), _, b3, .inl rfl, ⟨by rw [PyData.depth, depth_app, depth_app, depth_one]; omega, fun ps e => by
          injection e with e
          subst e
          simp
          omega⟩, hb3.mono (by omega), ?_⟩
        refine callF_x (ex := []) (ex' := []) (env := [some (.o i), some (.d (.tuple l)), some (.o j), none, none]) rfl hrs rfl (by simp) ?_
        simp only [List.append_assoc] at hB ⊢
        simp at q0 hA hB
        simp [f37, pt, toDs, hem, e1, hv5, plen, e2, e3, parSet, q0, q1, hc1, hc2, pidx, hix, toDs, padd, hA, hB]
      have q1 := q 1 w1
      by_cases w2 : w = 2 ∧ 1 < l.length
      · have q2 : ∀ st, cmpF .eq (.d (.int w)) (.d (.int 2)) st = .ok (.d (.bool true)) st := fun st => by rw [cmp_eq_ii, decide_eq_true (by omega)]
        have q3 : ∀ st, cmpF .gt (.d (.int l.length)) (.d (.int 1)) st = .ok (.d (.bool true)) st := fun st => by rw [cmp_gt_ii, decide_eq_true (by omega)]
        have hA : ∀ st, addF (.d (.tuple (l.drop u))) (.d (.tuple (l.take u))) st = .ok (.d (.tuple (l.drop u ++ l.take u))) st := fun st => at' _ _ st (by simp; omega)
        refine ⟨.d (.tuple (l.drop u ++ l.take u)), _, b3, .inl rfl, ⟨by rw [PyData.depth, depth_app]; omega, fun ps e => by
          injection e with e
          subst e
          simp
          omega⟩, hb3.mono (by omega), ?_⟩
        refine callF_x (ex := []) (ex' := []) (env := [some (.o i), some (.d (.tuple l)), some (.o j), none, none]) rfl hrs rfl (by simp) ?_
        simp at q0 q1
        simp [f37, pt, toDs, hem, e1, hv5, plen, e2, e3, parSet, q0, q1, q2, q3, hc1, hc2, padd, hA]
      have q2 : ∀ st, (tst (cmpF .eq (.d (.int w)) (.d (.int 2)) st) fun t st => if t then cmpF .gt (.d (.int l.length)) (.d (.int 1)) st else .ok (.d (.bool false)) st) = .ok (.d (.bool false)) st := fun st => by
        rw [cmp_eq_ii, tst_ok]
        by_cases h : w = 2
        · have : ¬ 1 < l.length := fun h' => w2 ⟨h, h'⟩
          rw [decide_eq_true (by omega), if_pos rfl, cmp_gt_ii, decide_eq_false (by omega)]
        · rw [decide_eq_false (by omega)]
          rfl
      by_cases w3 : w = 3
      · have q3 : ∀ st, cmpF .eq (.d (.int w)) (.d (.int 3)) st = .ok (.d (.bool true)) st := fun st => by rw [cmp_eq_ii, decide_eq_true (by omega)]
        refine ⟨.f (.lst l), .list l, b3, .inr ⟨l, rfl, rfl⟩, ⟨by rw [PyData.depth]; omega, fun ps e => by cases e⟩, hb3.mono (by omega), ?_⟩
        refine callF_n (ex := []) (ex' := []) (env := [some (.o i), some (.d (.tuple l)), some (.o j), none, none]) rfl hrs rfl (by simp) ?_
        simp at q0 q1
        simp [f37, pt, toDs, hem, e1, hv5, plen, e2, e3, parSet, q0, q1, q2, q3, pls]
      have q3 := q 3 w3
      obtain ⟨r, e, b4, h1, h2, h3, h4⟩ := ih (m - 1) (by omega) l[u] (by omega) (pl2 _ hmx) (k := k - 1) (by omega) (n := n) (i := i) (j := j) (b := b3) (st.set i b3) (List.getElem?_set_self hi') (hj' b3) hij (hb3.mono (by omega))
      rw [List.set_set] at h4
      have hr := h1.toD
      have hA : ∀ st, addF (.d (.tuple (l.take u))) (.d (.tuple [e])) st = .ok (.d (.tuple (l.take u ++ [e]))) st := fun st => at' _ _ st (by simp; omega)
      have hB : ∀ st, addF (.d (.tuple (l.take u ++ [e]))) (.d (.tuple (l.drop (u + 1)))) st = .ok (.d (.tuple (l.take u ++ [e] ++ l.drop (u + 1)))) st := fun st => at' _ _ st (by simp; omega)
      refine ⟨.d (.tuple (l.take u ++ [e] ++ l.drop (u + 1))), _, b4, .inl rfl, ⟨by rw [PyData.depth, depth_app, depth_app, depth_one]; omega, fun ps e => by
        injection e with e
        subst e
        simp
        omega⟩, h3, ?_⟩
      refine callF_x (ex := []) (ex' := []) (env := [some (.o i), some (.d (.tuple l)), some (.o j), none, none]) rfl hrs rfl (by simp) ?_
      simp only [List.append_assoc] at hB ⊢
      simp at q0 q1 q3 hA hB
      simp [f37, pt, toDs, hem, e1, hv5, plen, e2, e3, parSet, q0, q1, q2, q3, hc1, hc3, pidx, hix, h4, hr, toDs, padd, ai, hA, hB]
  · obtain ⟨y, b2, hy, hb2, e2⟩ := pick (q := n + 4 * m + 3) (hb.mono (by omega))
    rw [← hst] at e2
    refine ⟨.d y, y, b2, .inl rfl, ⟨by omega, hy.2⟩, hb2.mono (by omega), ?_⟩
    refine callF_x (ex := []) (ex' := []) (rs' := [.o i, .d d, .o j]) (env := [some (.o i), some (.d d), some (.o j), none, none]) rfl (by simp) rfl (by simp) ?_
    cases d with
    | tuple xs =>
      cases xs with
      | nil =>
        have hem : ∀ st, cmpF .eq (.d (.tuple [])) (.d (.tuple [])) st = .ok (.d (.bool true)) st := fun st => by simp [cmpF]
        simp [f37, primF, isaD, hem, toDs, e2]
      | cons x xs => exact absurd ⟨x, xs, rfl⟩ ht
    | _ => simp [f37, primF, isaD, e2]
end K02

namespace K02
open PySem Ev Hd Pl
/-! ### lists of the store where a place or a part should be -/
/-! ### terms with a part -/
theorem wt_at {s : Sg} : ∀ (p : List Nat) {t u : Tm} {x : Str}, WT s t x → atP t p = some u → ∃ y, WT s u y ∧ y ∈ allS s ∧ ∀ v, WT s v y → WT s (withP t p v) x
  | [], t, u, x, h, e => by
    rw [atP] at e
    cases e
    refine ⟨x, h, ?_, fun v hv => by cases t <;> exact hv⟩
    cases h with
    | var h1 h2 => exact h2
    | app h1 h2 h3 => exact sort_mem h1
  | k :: p, .var a b, u, x, h, e => by simp [atP] at e
  | k :: p, .app f ts, u, x, h, e => by
    rw [atP] at e
    cases e1 : ts[k]? with
    | none => rw [e1] at e; simp at e
    | some t1 =>
      rw [e1] at e
      cases h with
      | @app r ts h1 h2 h3 =>
        obtain ⟨hl, rfl⟩ := List.getElem?_eq_some_iff.mp e1
        have hl2 : k < r.2.1.length := by omega
        have h4 := h3 (ts[k], r.2.1[k]) (by
          rw [List.mem_iff_getElem]
          exact ⟨k, by simp; omega, by simp⟩)
        obtain ⟨y, a1, a2, a3⟩ := wt_at p h4 e
        refine ⟨y, a1, a2, fun v hv => ?_⟩
        rw [withP, e1]
        refine WT.app h1 (by simpa using h2) fun q hq => ?_
        obtain ⟨m, hm, rfl⟩ := List.mem_iff_getElem.mp hq
        simp only [List.getElem_zip]
        by_cases hk : k = m
        · subst hk
          simpa using a3 v hv
        · rw [List.getElem_set_ne hk]
          have hm1 : m < ts.length ∧ m < r.2.1.length := by simp at hm; omega
          exact h3 (ts[m]'hm1.1, r.2.1[m]'hm1.2) (List.mem_iff_getElem.mpr ⟨m, by simp; omega, by simp⟩)
theorem at_with : ∀ (p : List Nat) {t u v : Tm}, atP t p = some u → atP (withP t p v) p = some v
  | [], t, u, v, e => by cases t <;> simp [withP, atP]
  | k :: p, .var a b, u, v, e => by simp [atP] at e
  | k :: p, .app f ts, u, v, e => by
    rw [atP] at e
    cases e1 : ts[k]? with
    | none => rw [e1] at e; simp at e
    | some t1 =>
      rw [e1] at e
      have hl := (List.getElem?_eq_some_iff.mp e1).1
      rw [withP, e1]
      simp only [atP, List.getElem?_set_self hl]
      exact at_with p e
theorem with_with : ∀ (p : List Nat) {t u v : Tm}, atP t p = some u → withP (withP t p v) p u = t
  | [], t, u, v, e => by
    rw [atP] at e
    cases e
    cases t <;> cases v <;> rfl
  | k :: p, .var a b, u, v, e => by simp [atP] at e
  | k :: p, .app f ts, u, v, e => by
    rw [atP] at e
    cases e1 : ts[k]? with
    | none => rw [e1] at e; simp at e
    | some t1 =>
      rw [e1] at e
      obtain ⟨hl, rfl⟩ := List.getElem?_eq_some_iff.mp e1
      rw [withP, e1]
      simp only [withP, List.getElem?_set_self hl, List.set_set, with_with p e]
      rw [List.set_getElem_self]
theorem at_apart : ∀ (p q : List Nat) {t v : Tm}, apart p q = true → atP (withP t p v) q = atP t q
  | [], q, t, v, h => by simp [apart] at h
  | k :: p, [], t, v, h => by simp [apart] at h
  | k :: p, j :: q, .var a b, v, h => by simp [withP]
  | k :: p, j :: q, .app f ts, v, h => by
    rw [withP]
    cases e1 : ts[k]? with
    | none => rfl
    | some t1 =>
      obtain ⟨hl, rfl⟩ := List.getElem?_eq_some_iff.mp e1
      simp only [atP]
      by_cases hk : k = j
      · subst hk
        rw [List.getElem?_set_self hl, e1]
        refine at_apart p q ?_
        simpa [apart, Nat.succ_min_succ] using h
      · rw [List.getElem?_set_ne hk]
theorem sizes_set : ∀ (ts : List Tm) (k : Nat) (v : Tm), sizes (ts.set k v) ≤ sizes ts + v.size
  | [], k, v => by simp [sizes]
  | t :: ts, 0, v => by simp [sizes]; omega
  | t :: ts, k + 1, v => by
    have := sizes_set ts k v
    simp [sizes]
    omega
theorem sizes_set' : ∀ (ts : List Tm) (k : Nat) (hk : k < ts.length) (v : Tm), sizes (ts.set k v) + ts[k].size = sizes ts + v.size
  | t :: ts, 0, hk, v => by simp [sizes]; omega
  | t :: ts, k + 1, hk, v => by
    have := sizes_set' ts k (by simpa using hk) v
    simp [sizes] at this ⊢
    omega
theorem with_size : ∀ (p : List Nat) (t v : Tm), (withP t p v).size ≤ t.size + v.size
  | [], t, v => by cases t <;> simp [withP]
  | k :: p, .var a b, v => by simp [withP]
  | k :: p, .app f ts, v => by
    rw [withP]
    cases e1 : ts[k]? with
    | none => simp
    | some t1 =>
      obtain ⟨hl, rfl⟩ := List.getElem?_eq_some_iff.mp e1
      have h1 := sizes_set' ts k hl (withP ts[k] p v)
      have h2 := with_size p ts[k] v
      simp only [Tm.size]
      omega
theorem at_size : ∀ (p : List Nat) {t u : Tm}, atP t p = some u → u.size ≤ t.size
  | [], t, u, e => by
    rw [atP] at e
    cases e
    omega
  | k :: p, .var a b, u, e => by simp [atP] at e
  | k :: p, .app f ts, u, e => by
    rw [atP] at e
    cases e1 : ts[k]? with
    | none => rw [e1] at e; simp at e
    | some t1 =>
      rw [e1] at e
      have h1 := at_size p e
      have h2 := (sizes_mem ts).2 t1 (List.mem_of_getElem? e1)
      rw [Tm.size]
      omega
theorem gt_of {s : Sg} (g : Gs s) {t : Tm} {x : Str} (h : WT s t x) {m : Nat} (hm : t.size ≤ m) (h1 : m ≤ 1000) : Gt s t (2 * m) where
  dep := by have := depth_tm t; have := dep_le_size t; omega
  srt := by rw [wt_srt g h]; rfl
  size := by omega
end K02

namespace K02
open PySem Ev Hd Pl
/-! ### dicts from variables to terms -/
abbrev Vr := Str × Str
abbrev Sub := List (Vr × Tm)
def prD (p : Vr × Tm) : D × D := (varD p.1, tmD p.2)
@[simp] theorem eqv_var (v w : Vr) : PyData.eqv (varD v) (varD w) = decide (v = w) := by
  obtain ⟨a, b⟩ := v
  obtain ⟨c, d⟩ := w
  rw [varD, varD, tmD_var, tmD_var]
  simp [Prod.ext_iff]
@[simp] theorem keyT_var (v : Vr) : (keyT (varD v)).isSome = true := by
  rw [varD, tmD_var]
  simp [keyT, keyTs, keyD]
def lkS (M : Sub) (v : Vr) : Option Tm := (M.find? fun p => decide (p.1 = v)).map (·.2)
theorem lkS_nil (v : Vr) : lkS [] v = none := rfl
theorem lkS_cons (p : Vr × Tm) (M : Sub) (v : Vr) : lkS (p :: M) v = if p.1 = v then some p.2 else lkS M v := by
  by_cases h : p.1 = v <;> simp [lkS, h]
theorem lkS_app (M : Sub) (v w : Vr) (t : Tm) : lkS (M ++ [(v, t)]) w = (lkS M w).or (if v = w then some t else none) := by
  induction M with
  | nil => simp [lkS_cons, lkS_nil]
  | cons p M ih =>
    rw [List.cons_append, lkS_cons, lkS_cons, ih]
    by_cases h : p.1 = w <;> simp [h]
theorem dget_s (M : Sub) (v : Vr) : dget (M.map prD) (varD v) = (lkS M v).map tmD := by
  induction M with
  | nil => rfl
  | cons p M ih =>
    rw [lkS_cons]
    have e : dget ((p :: M).map prD) (varD v) = if PyData.eqv (varD p.1) (varD v) then some (tmD p.2) else dget (M.map prD) (varD v) := by
      rw [dget, List.map_cons, List.find?_cons]
      show Option.map _ (match PyData.eqv (varD p.1) (varD v) with | true => _ | false => _) = _
      cases PyData.eqv (varD p.1) (varD v) <;> rfl
    rw [e, eqv_var, ih]
    by_cases h : p.1 = v <;> simp [h]
def putS (M : Sub) (v : Vr) (t : Tm) : Sub := if (lkS M v).isSome then M.map (fun p => if p.1 = v then (p.1, t) else p) else M ++ [(v, t)]
theorem lkS_any (M : Sub) (v : Vr) : (M.any fun p => decide (p.1 = v)) = (lkS M v).isSome := by
  induction M with
  | nil => rfl
  | cons p M ih =>
    rw [List.any_cons, lkS_cons, ih]
    by_cases h : p.1 = v <;> simp [h]
theorem dput_s (M : Sub) (v : Vr) (t : Tm) : dput (M.map prD) (varD v) (tmD t) = (putS M v t).map prD := by
  rw [dput, putS]
  have e : ((M.map prD).any fun p => PyData.eqv p.1 (varD v)) = (lkS M v).isSome := by
    rw [← lkS_any, List.any_map]
    congr 1
    funext p
    show PyData.eqv (varD p.1) (varD v) = _
    rw [eqv_var]
  rw [e]
  cases (lkS M v).isSome with
  | true =>
    simp only [if_true, List.map_map]
    refine List.map_congr_left fun p _ => ?_
    show (if PyData.eqv (varD p.1) (varD v) = true then (varD p.1, tmD t) else prD p) = prD (if p.1 = v then (p.1, t) else p)
    rw [eqv_var]
    by_cases h : p.1 = v <;> simp [h, prD]
  | false => simp [prD]
theorem putS_new {M : Sub} {v : Vr} (h : lkS M v = none) (t : Tm) : putS M v t = M ++ [(v, t)] := by simp [putS, h]
/-! ### what is put in -/
mutual
def putT (M : Sub) : Tm → Tm
  | .var x s => (lkS M (x, s)).getD (.var x s)
  | .app f ts => .app f (putTs M ts)
def putTs (M : Sub) : List Tm → List Tm
  | [] => []
  | t :: ts => putT M t :: putTs M ts
end
theorem putTs_map (M : Sub) : ∀ ts, putTs M ts = ts.map (putT M)
  | [] => by rw [putTs]; rfl
  | t :: ts => by rw [putTs, putTs_map M ts]; rfl
/-! ### variables as they stand -/
mutual
def lvs : Tm → List Vr
  | .var x s => [(x, s)]
  | .app _ ts => lvss ts
def lvss : List Tm → List Vr
  | [] => []
  | t :: ts => lvs t ++ lvss ts
end
theorem lvss_flat : ∀ ts, lvss ts = ts.flatMap lvs
  | [] => by rw [lvss]; rfl
  | t :: ts => by rw [lvss, lvss_flat ts]; rfl
theorem lvs_len : ∀ t : Tm, (lvs t).length ≤ t.size := by
  intro t
  induction t using Tm.ind with
  | hv x s => simp [lvs, Tm.size]
  | ha f ts ih =>
    rw [lvs, Tm.size]
    have : (lvss ts).length ≤ sizes ts := by
      clear f
      induction ts with
      | nil => simp [lvss]
      | cons t ts iht =>
        rw [lvss, sizes, List.length_append]
        have := ih t (by simp)
        have := iht fun u hu => ih u (by simp [hu])
        omega
    omega
/-- each once, as it first stands -/
def ded (acc : List Vr) : List Vr → List Vr
  | [] => acc
  | v :: l => if v ∈ acc then ded acc l else ded (acc ++ [v]) l
theorem ded_app (acc a b : List Vr) : ded acc (a ++ b) = ded (ded acc a) b := by
  induction a generalizing acc with
  | nil => rfl
  | cons v a ih =>
    rw [List.cons_append, ded, ded]
    split
    · exact ih acc
    · exact ih _
theorem ded_filter (acc : List Vr) : ∀ (l b : List Vr), ded (acc ++ b.filter fun v => decide (v ∉ acc)) l = acc ++ (ded b l).filter fun v => decide (v ∉ acc)
  | [], b => rfl
  | v :: l, b => by
    rw [ded, ded]
    have ih := ded_filter acc l
    by_cases hb : v ∈ b
    · have h1 : v ∈ acc ++ b.filter fun v => decide (v ∉ acc) := by
        by_cases ha : v ∈ acc <;> simp [ha, hb]
      rw [if_pos h1, if_pos hb]
      exact ih b
    · rw [if_neg hb]
      by_cases ha : v ∈ acc
      · rw [if_pos (by simp [ha]), ← ih (b ++ [v])]
        simp [List.filter_append, ha]
      · rw [if_neg (by simp [ha, hb]), ← ih (b ++ [v])]
        simp [List.filter_append, ha, List.append_assoc]
mutual
def fv : Tm → List Vr
  | .var x s => [(x, s)]
  | .app _ ts => fvs [] ts
def fvs (acc : List Vr) : List Tm → List Vr
  | [] => acc
  | t :: ts => fvs (acc ++ (fv t).filter fun v => decide (v ∉ acc)) ts
end
theorem fvs_ded : ∀ (ts : List Tm) (acc : List Vr), (∀ t ∈ ts, fv t = ded [] (lvs t)) → fvs acc ts = ded acc (lvss ts)
  | [], acc, _ => by rw [fvs, lvss]; rfl
  | t :: ts, acc, h => by
    rw [fvs, lvss, ded_app, h t (by simp), fvs_ded ts _ fun u hu => h u (by simp [hu])]
    congr 1
    have := ded_filter acc (lvs t) []
    simpa using this.symm
theorem fv_ded (t : Tm) : fv t = ded [] (lvs t) := by
  induction t using Tm.ind with
  | hv x s => rw [fv, lvs]; rfl
  | ha f ts ih => rw [fv, lvs, fvs_ded ts [] ih]
theorem ded_len (acc : List Vr) : ∀ l, (ded acc l).length ≤ acc.length + l.length
  | [] => by simp [ded]
  | v :: l => by
    rw [ded]
    have h1 := ded_len acc l
    have h2 := ded_len (acc ++ [v]) l
    simp at h1 h2 ⊢
    split <;> omega
theorem ded_nodup : ∀ (l acc : List Vr), acc.Nodup → (ded acc l).Nodup
  | [], acc, h => h
  | v :: l, acc, h => by
    rw [ded]
    split
    · exact ded_nodup l acc h
    · rename_i hv
      refine ded_nodup l _ ?_
      rw [List.nodup_append]
      exact ⟨h, by simp, fun a ha b hb => by simp at hb; subst hb; exact fun e => hv (e ▸ ha)⟩
theorem ded_mem : ∀ (l acc : List Vr) (v : Vr), v ∈ ded acc l ↔ v ∈ acc ∨ v ∈ l
  | [], acc, v => by simp [ded]
  | w :: l, acc, v => by
    rw [ded]
    split
    · rename_i hw
      rw [ded_mem l acc v]
      constructor
      · rintro (h | h)
        · exact .inl h
        · exact .inr (by simp [h])
      · rintro (h | h)
        · exact .inl h
        · rcases List.mem_cons.mp h with rfl | h
          · exact .inl hw
          · exact .inr h
    · rw [ded_mem l _ v]
      simp [or_assoc]
/-! ### matching -/
def eqT (t u : Tm) : Bool := PyData.eqv (tmD t) (tmD u)
mutual
def mt : Tm → Tm → Sub → Bool × Sub
  | .var x s, t, M => match lkS M (x, s) with
    | some u => (eqT u t, M)
    | none => (true, M ++ [((x, s), t)])
  | .app _ _, .var _ _, M => (false, M)
  | .app f ts, .app g us, M => if f = g then mts ts us M else (false, M)
def mts : List Tm → List Tm → Sub → Bool × Sub
  | t :: ts, u :: us, M => ((mt t u M).1 && (mts ts us (mt t u M).2).1, (mts ts us (mt t u M).2).2)
  | _, _, M => (true, M)
end
end K02

namespace K02
open PySem Ev Hd Pl
/-! ### put_in -/
theorem p13 (t : Tm) : ∀ {k : Nat} (hk : t.dep ≤ k) {j : Nat} {l : Bool} {M : Sub} (st : List Ob) (hj : st[j]? = some (.dit l (M.map prD))), calls tb k 12 [.d (tmD t), .o j] st = .ok (.d (tmD (putT M t))) st := by
  have pidx : ∀ a b st, primF .idx [a, b] st = idxF a b st := fun a b st => rfl
  induction t using Tm.ind with
  | hv x s =>
    intro k hk j l M st hj
    rw [Tm.dep] at hk
    rw [calls_at (by omega) (fd := f12) rfl]
    refine callF_d rfl rfl ?_
    show exSs (calls tb (k - 1)) f12.body [some (.d (tmD _)), some (.o j), none] st = _
    have h1 : get2F (.o j) (.d (tmD (.var x s))) (.d (tmD (.var x s))) st = .ok (.d (tmD (putT M (.var x s)))) st := by
      rw [show tmD (.var x s) = varD (x, s) from rfl, get2_t hj (keyT_var _), dget_s, putT]
      cases lkS M (x, s) <;> rfl
    simp [f12, pidx, cmp_eq_ss, isDict_t hj, h1]
  | ha f ts ih =>
    intro k hk j l M st hj
    rw [Tm.dep] at hk
    rw [calls_at (by omega) (fd := f12) rfl]
    refine callF_d rfl rfl ?_
    show exSs (calls tb (k - 1)) f12.body [some (.d (tmD _)), some (.o j), none] st = _
    have w : evE (calls tb (k - 1)) (.comp (.call 12 (.cons (.var 2) (.cons (.var 1) .nil))) (.name 2) (.of (.prim .idx (.cons (.var 0) (.cons (.dat (.int 2)) .nil)))) .no [2]) [some (.d (tmD (.app f ts))), some (.o j), none] st = .ok (.f (.lst (ts.map fun t => tmD (putT M t)))) st := by
      refine cmap (l := ts) (F := tmD) (g := none) (evI_tuple (by simp [pidx])) fun t ht => ⟨_, .d (tmD (putT M t)), rfl, ?_, rfl⟩
      have := dep_mem ht
      simp [wipeE, ih t ht (k := k - 1) (by omega) st hj]
    have hm : (ts.map fun t => tmD (putT M t)) = (ts.map (putT M)).map tmD := by simp
    rw [hm] at w
    have ht : tmD (putT M (.app f ts)) = .tuple [.str "app", .str f, .tuple ((ts.map (putT M)).map tmD)] := by rw [putT, putTs_map, tmD_app]
    have pt : ∀ st, primF .tuple [.f (.lst ((ts.map (putT M)).map tmD))] st = .ok (.d (.tuple ((ts.map (putT M)).map tmD))) st := fun st => rfl
    rw [ht]
    generalize (ts.map (putT M)).map tmD = z at w pt
    simp [f12, pidx, cmp_eq_ss, var_ne_app, w, toDs, pt]
theorem p13f (t : Tm) {k : Nat} (hk : t.dep ≤ k) (h0 : 0 < k) {M : Sub} (st : List Ob) : calls tb k 12 [.d (tmD t), .f (.dit false (M.map prD))] st = .ok (.d (tmD (putT M t))) st := by
  have h1 := p13 t hk (j := st.length) (l := false) (M := M) (st ++ [.dit false (M.map prD)]) (by simp)
  exact calls_f2 h0 (fd := f12) rfl rfl h1

theorem p41 (t : Tm) : ∀ {k : Nat} (hk : t.dep ≤ k) {j : Nat} {l : Bool} {M : Sub} (st : List Ob) (hj : st[j]? = some (.dit l (M.map prD))), calls tb k 33 [.d (tmD t), .o j] st = .ok (.d (tmD (putT M t))) st := by
  have pidx : ∀ a b st, primF .idx [a, b] st = idxF a b st := fun a b st => rfl
  induction t using Tm.ind with
  | hv x s =>
    intro k hk j l M st hj
    rw [Tm.dep] at hk
    rw [calls_at (by omega) (fd := f33) rfl]
    refine callF_d rfl rfl ?_
    show exSs (calls tb (k - 1)) f33.body [some (.d (tmD _)), some (.o j), none] st = _
    have h1 : get2F (.o j) (.d (tmD (.var x s))) (.d (tmD (.var x s))) st = .ok (.d (tmD (putT M (.var x s)))) st := by
      rw [show tmD (.var x s) = varD (x, s) from rfl, get2_t hj (keyT_var _), dget_s, putT]
      cases lkS M (x, s) <;> rfl
    simp [f33, pidx, cmp_eq_ss, isDict_t hj, h1]
  | ha f ts ih =>
    intro k hk j l M st hj
    rw [Tm.dep] at hk
    rw [calls_at (by omega) (fd := f33) rfl]
    refine callF_d rfl rfl ?_
    show exSs (calls tb (k - 1)) f33.body [some (.d (tmD _)), some (.o j), none] st = _
    have w : evE (calls tb (k - 1)) (.comp (.call 33 (.cons (.var 2) (.cons (.var 1) .nil))) (.name 2) (.of (.prim .idx (.cons (.var 0) (.cons (.dat (.int 2)) .nil)))) .no [2]) [some (.d (tmD (.app f ts))), some (.o j), none] st = .ok (.f (.lst (ts.map fun t => tmD (putT M t)))) st := by
      refine cmap (l := ts) (F := tmD) (g := none) (evI_tuple (by simp [pidx])) fun t ht => ⟨_, .d (tmD (putT M t)), rfl, ?_, rfl⟩
      have := dep_mem ht
      simp [wipeE, ih t ht (k := k - 1) (by omega) st hj]
    have hm : (ts.map fun t => tmD (putT M t)) = (ts.map (putT M)).map tmD := by simp
    rw [hm] at w
    have ht : tmD (putT M (.app f ts)) = .tuple [.str "app", .str f, .tuple ((ts.map (putT M)).map tmD)] := by rw [putT, putTs_map, tmD_app]
    have pt : ∀ st, primF .tuple [.f (.lst ((ts.map (putT M)).map tmD))] st = .ok (.d (.tuple ((ts.map (putT M)).map tmD))) st := fun st => rfl
    rw [ht]
    generalize (ts.map (putT M)).map tmD = z at w pt
    simp [f33, pidx, cmp_eq_ss, var_ne_app, w, toDs, pt]
theorem p41f (t : Tm) {k : Nat} (hk : t.dep ≤ k) (h0 : 0 < k) {M : Sub} (st : List Ob) : calls tb k 33 [.d (tmD t), .f (.dit false (M.map prD))] st = .ok (.d (tmD (putT M t))) st := by
  have h1 := p41 t hk (j := st.length) (l := false) (M := M) (st ++ [.dit false (M.map prD)]) (by simp)
  exact calls_f2 h0 (fd := f33) rfl rfl h1
/-! ### variables -/
end K02

namespace K02
open PySem Ev Hd Pl
/-! ### the variables of a term -/
theorem any_vars (v : Vr) (acc : List Vr) : ((acc.map varD).any fun z => PyData.eqv z (varD v)) = decide (v ∈ acc) := by
  induction acc with
  | nil => rfl
  | cons w acc ih =>
    rw [List.map_cons, List.any_cons, ih, eqv_var]
    by_cases h : w = v
    · simp [h]
    · have : ¬ v = w := fun e => h e.symm
      simp [h, this]
theorem varD_depth (v : Vr) : (varD v).depth = 1 := by
  rw [varD, tmD_var]
  simp [PyData.depth, PyData.depthAll]
theorem dok_var (v : Vr) (d : D) : depthOk (varD v) d = true := dok_of (.inl (by rw [varD_depth]; omega))
theorem seqOf_o {st : List Ob} {j : Nat} {xs : List D} (h : st[j]? = some (.lst xs)) : seqOf st (.o j) = some xs := by simp [seqOf, lstOf, h]
theorem dicOf_l {st : List Ob} {j : Nat} {xs : List D} (h : st[j]? = some (.lst xs)) : dicOf st (.o j) = none := by simp [dicOf, h]
theorem notin_vars {st : List Ob} {j : Nat} {acc : List Vr} (h : st[j]? = some (.lst (acc.map varD))) (v : Vr) : cmpF .notin (.d (varD v)) (.o j) st = .ok (.d (.bool (decide (v ∉ acc)))) st := by
  simp only [cmpF, cmpF.inF, dicOf_l h, seqOf_o h, dok_var, if_true, any_vars, okB]
  by_cases hv : v ∈ acc <;> simp [hv]
theorem extF_o {st : List Ob} {j : Nat} {xs ys : List D} (h : st[j]? = some (.lst xs)) (hl : xs.length + ys.length ≤ 1000000) : extF (.o j) (.f (.lst ys)) st = .ok (.d .none) (st.set j (.lst (xs ++ ys))) := by
  simp [extF, objL, h, newL, hl]
theorem fvs_len : ∀ (us : List Tm) (acc : List Vr), (fvs acc us).length ≤ acc.length + sizes us
  | us, acc => by
    rw [fvs_ded us acc fun t _ => fv_ded t]
    have := ded_len acc (lvss us)
    have h : (lvss us).length ≤ sizes us := by
      induction us generalizing acc with
      | nil => simp [lvss]
      | cons t ts iht =>
        rw [lvss, sizes, List.length_append]
        have := lvs_len t
        have := iht acc (ded_len acc (lvss ts))
        omega
    omega
theorem fv_len (t : Tm) : (fv t).length ≤ t.size := by
  rw [fv_ded]
  have := ded_len [] (lvs t)
  have := lvs_len t
  simp at *
  omega
end K02

namespace K02
open PySem Ev Hd Pl
/-! ### the variables of a term, by the law's own -/
end K02

namespace K02
open PySem Ev Hd Pl
/-! ### plain names -/
def vn (i : Nat) : Str := ("V" : Str) ++ Str.ofString (toString (i : Int))
theorem vn_ok : ∀ n < 30, okS (Str.ofString (toString ((n : Nat) : Int))) = true ∧ okS (vn n) = true := by decide +kernel
theorem vn_inj : ∀ i < 30, ∀ j < 30, vn i = vn j → i = j := by decide +kernel
def numF : Nat → List Vr → Sub
  | _, [] => []
  | k, v :: us => (v, .var (vn k) v.2) :: numF (k + 1) us
theorem numF_len : ∀ (us : List Vr) (k : Nat), (numF k us).length = us.length
  | [], _ => rfl
  | v :: us, k => by rw [numF, List.length_cons, numF_len us, List.length_cons]
theorem numF_app : ∀ (us : List Vr) (k : Nat) (v : Vr), numF k (us ++ [v]) = numF k us ++ [(v, .var (vn (k + us.length)) v.2)]
  | [], k, v => rfl
  | u :: us, k, v => by
    rw [List.cons_append, numF, numF_app us (k + 1) v, numF, List.cons_append, List.length_cons, Nat.add_right_comm k 1, Nat.add_assoc]
abbrev num (us : List Vr) : Sub := numF 0 us
theorem lk_num : ∀ (us : List Vr) (k : Nat) (v : Vr), lkS (numF k us) v = if v ∈ us then some (.var (vn (k + us.idxOf v)) v.2) else none
  | [], k, v => by simp [numF, lkS_nil]
  | u :: us, k, v => by
    rw [numF, lkS_cons, lk_num us (k + 1) v]
    by_cases h : u = v
    · subst h
      simp
    · have h2 : ¬ v = u := fun e => h e.symm
      by_cases hv : v ∈ us
      · have hb : (u == v) = false := by simp [h]
        simp [h, h2, hv, List.idxOf_cons, Nat.add_assoc, Nat.add_comm 1, hb]
      · simp [h, h2, hv]
def pln (t : Tm) : Tm := putT (num (fv t)) t
theorem varD_tup (v : Vr) : varD v = .tuple [.str "var", .str v.1, .str v.2] := by rw [varD, tmD_var]
theorem notin_sub {st : List Ob} {j : Nat} {l : Bool} {M : Sub} (h : st[j]? = some (.dit l (M.map prD))) (v : Vr) : cmpF .notin (.d (varD v)) (.o j) st = .ok (.d (.bool (!(lkS M v).isSome))) st := by
  have hk := keyT_var v
  have hd := dget_s M v
  rw [varD_tup] at hk hd ⊢
  rw [notin_t h hk, hd]
  cases lkS M v <;> rfl
theorem idx_var2 (v : Vr) (st : List Ob) : idxF (.d (varD v)) (.d (.int 2)) st = .ok (.d (.str v.2)) st := by rw [varD_tup]; rfl
theorem ded_nd (t : Tm) : (fv t).Nodup := by
  rw [fv_ded]
  exact ded_nodup _ _ List.nodup_nil
theorem tm_depth (t : Tm) (hz : t.size ≤ 29) : (tmD t).depth ≤ 58 := by
  have := depth_tm t
  have := dep_le_size t
  omega
theorem put_dep (M : Sub) (h : ∀ v t, lkS M v = some t → ∃ x s, t = .var x s) : ∀ t : Tm, (putT M t).dep = t.dep := by
  intro t
  induction t using Tm.ind with
  | hv x s =>
    rw [putT]
    cases e : lkS M (x, s) with
    | none => rfl
    | some u =>
      obtain ⟨y, z, rfl⟩ := h _ _ e
      rfl
  | ha f ts ih =>
    rw [putT, Tm.dep, Tm.dep]
    congr 1
    clear f
    induction ts with
    | nil => rw [putTs]
    | cons t ts iht => rw [putTs, deps, deps, ih t (by simp), iht fun u hu => ih u (by simp [hu])]
theorem pln_dep (t : Tm) : (pln t).dep = t.dep := put_dep _ (fun v u h => by
  rw [lk_num] at h
  split at h
  · cases h; exact ⟨_, _, rfl⟩
  · cases h) t
theorem pln_depth (t : Tm) (hz : t.size ≤ 29) : (tmD (pln t)).depth ≤ 58 := by
  have h1 := depth_tm (pln t)
  have h2 := dep_le_size t
  rw [pln_dep] at h1
  omega
theorem list1_depth (a : D) : (PyData.list [a]).depth ≤ a.depth + 1 := by simp [PyData.depth, PyData.depthAll]
def alkB (t u : Tm) : Bool := eqT (pln t) (pln u)
end K02

namespace K02
open PySem Ev Hd Pl
/-! ### what a dict tells -/
theorem nd_fn {M : Sub} (h : (M.map (·.1)).Nodup) : ∀ p ∈ M, ∀ q ∈ M, p.1 = q.1 → p = q := by
  induction M with
  | nil => intro p hp; simp at hp
  | cons a M ih =>
    rw [List.map_cons, List.nodup_cons] at h
    obtain ⟨h1, h2⟩ := h
    intro p hp q hq e
    rcases List.mem_cons.mp hp with rfl | hp' <;> rcases List.mem_cons.mp hq with rfl | hq'
    · rfl
    · exact absurd (List.mem_map.mpr ⟨q, hq', e.symm⟩) h1
    · exact absurd (List.mem_map.mpr ⟨p, hp', e⟩) h1
    · exact ih h2 p hp' q hq' e
structure Mo (M : Sub) : Prop where
  nd : (M.map (·.1)).Nodup
  sz : ∀ p ∈ M, p.2.size ≤ 60
theorem Mo.fn {M : Sub} (h : Mo M) : ∀ p ∈ M, ∀ q ∈ M, p.1 = q.1 → p = q := nd_fn h.nd
theorem lkS_mem {M : Sub} (h : Mo M) {p : Vr × Tm} (hp : p ∈ M) : lkS M p.1 = some p.2 := by
  have hf := h.fn p hp
  clear h
  induction M with
  | nil => simp at hp
  | cons q M ih =>
    rw [lkS_cons]
    by_cases e : q.1 = p.1
    · rw [if_pos e, hf q (by simp) e.symm]
    · rw [if_neg e]
      rcases List.mem_cons.mp hp with rfl | hp
      · exact absurd rfl e
      · exact ih hp fun r hr => hf r (by simp [hr])
theorem lkS_none {M : Sub} {v : Vr} (h : lkS M v = none) : ∀ p ∈ M, p.1 ≠ v := by
  induction M with
  | nil => simp
  | cons q M ih =>
    rw [lkS_cons] at h
    by_cases e : q.1 = v
    · rw [if_pos e] at h; cases h
    · rw [if_neg e] at h
      intro p hp
      rcases List.mem_cons.mp hp with rfl | hp
      · exact e
      · exact ih h p hp
theorem lkS_in {M : Sub} {v : Vr} {u : Tm} (h : lkS M v = some u) : (v, u) ∈ M := by
  induction M with
  | nil => simp [lkS_nil] at h
  | cons q M ih =>
    rw [lkS_cons] at h
    by_cases e : q.1 = v
    · rw [if_pos e] at h
      injection h with h
      rw [← e, ← h]
      simp
    · rw [if_neg e] at h
      simp [ih h]
theorem mo_nil : Mo [] := ⟨List.nodup_nil, fun p hp => by simp at hp⟩
def tellB (p : Vr × Tm) : Bool := !eqT p.2 (.var p.1.1 p.1.2)
def pairD (p : Vr × Tm) : D := .tuple [varD p.1, tmD p.2]
def toldL (M : Sub) : List D := (M.filter tellB).map pairD
def toldD (M : Sub) : D := .tuple (sortD (toldL M))
theorem cmp_refl_all : ∀ l : List D, (∀ x ∈ l, cmpOk x x = true) → cmpAll l l = true
  | [], _ => by rw [cmpAll]
  | x :: l, h => by
    rw [cmpAll, h x (by simp), cmp_refl_all l fun y hy => h y (by simp [hy])]
    rfl
theorem cmp_refl (t : Tm) : cmpOk (tmD t) (tmD t) = true := by
  induction t using Tm.ind with
  | hv x s => rw [tmD_var]; simp [cmpOk, cmpAll]
  | ha f ts ih =>
    rw [tmD_app]
    have h : cmpAll (ts.map tmD) (ts.map tmD) = true := cmp_refl_all _ fun x hx => by
      obtain ⟨t, ht, rfl⟩ := List.mem_map.mp hx
      exact ih t ht
    simp [cmpOk, cmpAll, h]
theorem cmp_var (v w : Vr) : cmpOk (varD v) (varD w) = true := by
  rw [varD_tup, varD_tup]
  simp [cmpOk, cmpAll]
theorem pair_depth {p : Vr × Tm} (h : p.2.size ≤ 60) : (pairD p).depth ≤ 122 := by
  have h1 := depth_tm p.2
  have h3 := dep_le_size p.2
  have h2 := varD_depth p.1
  rw [pairD]
  simp only [PyData.depth, PyData.depthAll, h2]
  omega
theorem told_ok {M : Sub} (h : Mo M) : sortOk (toldL M) = true := by
  have h1 : Ev.pairsOk (toldL M) = true := by
    simp only [Ev.pairsOk, List.all_eq_true, toldL, List.mem_map, List.mem_filter]
    rintro _ ⟨p, ⟨hp, _⟩, rfl⟩ _ ⟨q, ⟨hq, _⟩, rfl⟩
    show cmpLz [varD p.1, tmD p.2] [varD q.1, tmD q.2] = true
    rw [cmpLz, cmp_var, eqv_var, cmpLz]
    by_cases e : p.1 = q.1
    · obtain rfl := h.fn p hp q hq e
      simp [cmp_refl, cmpLz]
    · simp [e]
  have h2 : PyData.depthAll (toldL M) ≤ 150 := depthAll_le fun x hx => by
    obtain ⟨p, hp, rfl⟩ := List.mem_map.mp hx
    have := pair_depth (h.sz p (List.mem_filter.mp hp).1)
    omega
  have h3 : (toldL M).all isTup1 = true := by
    simp only [List.all_eq_true, toldL, List.mem_map]
    rintro _ ⟨p, _, rfl⟩
    rfl
  simp [sortOk, h1, h2, h3]
theorem mem_insD (x z : D) (l : List D) : z ∈ insD x l ↔ z = x ∨ z ∈ l := by
  induction l with
  | nil => simp [insD]
  | cons y l ih =>
    rw [insD]
    cases ltD y x
    · simp
    · simp [ih]
      exact or_left_comm
theorem mem_sortD (z : D) (l : List D) : z ∈ sortD l ↔ z ∈ l := by
  induction l with
  | nil => simp [sortD]
  | cons y l ih => simp [sortD, mem_insD, ih]
theorem insD_len (x : D) (l : List D) : (insD x l).length = l.length + 1 := by
  induction l with
  | nil => rfl
  | cons y l ih =>
    rw [insD]
    cases ltD y x <;> simp [ih]
theorem sortD_len (l : List D) : (sortD l).length = l.length := by
  induction l with
  | nil => rfl
  | cons y l ih => rw [sortD, insD_len, ih, List.length_cons]
theorem prs_ok (M : Sub) : ((M.map prD).all fun p => prOk p.1 p.2) = true := by
  simp only [List.all_eq_true, List.mem_map]
  rintro _ ⟨p, _, rfl⟩
  show prOk (varD p.1) (tmD p.2) = true
  rw [varD_tup]
  rfl
theorem cmp_tell (p : Vr × Tm) (st : List Ob) : cmpF .ne (.d (tmD p.2)) (.d (varD p.1)) st = .ok (.d (.bool (tellB p))) st := by
  have hd : depthOk (tmD p.2) (varD p.1) = true := dok_of (.inr (by rw [varD_depth]; omega))
  simp only [cmpF, bothD_dd, hd, if_true, okB, tellB, eqT]
  rfl
theorem c16v {k : Nat} (hk : 0 < k) {M : Sub} (h : Mo M) {j : Nat} (st : List Ob) (hj : st[j]? = some (.dit false (M.map prD))) : calls tb k 14 [.o j] st = .ok (.d (toldD M)) st := by
  rw [calls_at hk (fd := f14) rfl]
  refine callF_d rfl rfl ?_
  show exSs (calls tb (k - 1)) f14.body [some (.o j), none, none] st = _
  have w : evE (calls tb (k - 1)) (.lock 0 (.comp (.tup (.cons (.var 1) (.cons (.var 2) .nil))) (.tup [1, 2]) (.ditems 0) (.yes (.cmp .ne (.var 2) (.var 1))) [1, 2])) [some (.o j), none, none] st = .ok (.f (.lst (toldL M))) st := by
    refine evE_lock (i := j) rfl hj ?_
    refine cfilter (l := M) (F := pairD) (h := pairD) (p := tellB) (g := some j) ?_ fun p _ => ⟨_, .d (pairD p), rfl, ?_, ?_, rfl⟩
    · rw [evI_ditems (i := j) rfl (get_set hj) (prs_ok M), List.map_map]
      rfl
    · simp [setAll, wipeE, cmp_tell]
    · simp [setAll, wipeE, toDs, pairD]
  have hs : ∀ st, primF .sorted [.f (.lst (toldL M))] st = .ok (.f (.lst (sortD (toldL M)))) st := fun st => by
    simp only [primF, lstOf_f, told_ok h, if_true]
  have ht : ∀ st, primF .tuple [.f (.lst (sortD (toldL M)))] st = .ok (.d (toldD M)) st := fun st => rfl
  simp [f14, w, hs, ht]
theorem c42v {k : Nat} (hk : 0 < k) {M : Sub} (h : Mo M) {j : Nat} (st : List Ob) (hj : st[j]? = some (.dit false (M.map prD))) : calls tb k 34 [.o j] st = .ok (.d (toldD M)) st := by
  rw [calls_at hk (fd := f34) rfl]
  refine callF_d rfl rfl ?_
  show exSs (calls tb (k - 1)) f34.body [some (.o j), none] st = _
  have w : evE (calls tb (k - 1)) (.lock 0 (.comp (.tup (.cons (.var 1) (.cons (.prim .idx (.cons (.var 0) (.cons (.var 1) .nil))) .nil))) (.name 1) (.dkeys 0) (.yes (.cmp .ne (.prim .idx (.cons (.var 0) (.cons (.var 1) .nil))) (.var 1))) [1])) [some (.o j), none] st = .ok (.f (.lst (toldL M))) st := by
    refine evE_lock (i := j) rfl hj ?_
    refine cfilter (l := M) (F := fun p => varD p.1) (h := pairD) (p := tellB) (g := some j) ?_ fun p hp => ?_
    · rw [evI_dkeys (i := j) rfl (get_set hj), List.map_map]
      rfl
    · have hx : primF .idx [.o j, .d (varD p.1)] (st.set j (.dit true (M.map prD))) = .ok (.d (tmD p.2)) (st.set j (.dit true (M.map prD))) := by
        show idxF (.o j) (.d (varD p.1)) _ = _
        have hk := keyT_var p.1
        have hd := dget_s M p.1
        rw [lkS_mem h hp] at hd
        rw [varD_tup] at hk hd ⊢
        exact idx_t (get_set hj) hk hd
      refine ⟨_, .d (pairD p), rfl, ?_, ?_, rfl⟩
      · simp [wipeE, hx, cmp_tell]
      · simp [wipeE, hx, toDs, pairD]
  have hs : ∀ st, primF .sorted [.f (.lst (toldL M))] st = .ok (.f (.lst (sortD (toldL M)))) st := fun st => by
    simp only [primF, lstOf_f, told_ok h, if_true]
  have ht : ∀ st, primF .tuple [.f (.lst (sortD (toldL M)))] st = .ok (.d (toldD M)) st := fun st => rfl
  simp [f34, w, hs, ht]
theorem eqT_iff : ∀ (t u : Tm), eqT t u = true ↔ t = u := by
  intro t
  induction t using Tm.ind with
  | hv x s =>
    intro u
    cases u with
    | var y r => rw [eqT, tmD_var, tmD_var]; simp
    | app f ts => rw [eqT, tmD_var, tmD_app]; simp [app_ne_var]
  | ha f ts ih =>
    intro u
    cases u with
    | var y r => rw [eqT, tmD_var, tmD_app]; simp [var_ne_app]
    | app g us =>
      have h : ∀ (ts us : List Tm), (∀ t ∈ ts, ∀ u, eqT t u = true ↔ t = u) → (PyData.eqvAll (ts.map tmD) (us.map tmD) = true ↔ ts = us) := by
        intro ts
        induction ts with
        | nil => intro us _; cases us <;> simp
        | cons t ts iht =>
          intro us h
          cases us with
          | nil => simp
          | cons u us =>
            have h1 := h t (by simp) u
            have h2 := iht us fun v hv => h v (by simp [hv])
            rw [eqT] at h1
            simp [h1, h2]
      rw [eqT, tmD_app, tmD_app]
      simp [h ts us ih]
/-! ### the order of variables -/
def ltV (v w : Vr) : Bool := ltD (varD v) (varD w)
theorem ltV_eq (v w : Vr) : ltV v w = if v.1 = w.1 then ltS v.2 w.2 else ltS v.1 w.1 := by
  have e0 : PyData.eqv (.str "var") (.str "var") = true := by simp
  rw [ltV, varD_tup, varD_tup, ltD, ltAll, if_pos e0, ltAll, eqv_ss]
  by_cases h : v.1 = w.1
  · rw [if_pos (by simpa using h), if_pos h, ltAll, eqv_ss]
    by_cases h2 : v.2 = w.2
    · rw [if_pos (by simpa using h2), h2, ltS_irrefl, ltAll]
    · rw [if_neg (by simpa using h2)]
      rfl
  · rw [if_neg (by simpa using h), if_neg h]
    rfl
theorem ltV_irrefl (v : Vr) : ltV v v = false := by rw [ltV_eq, if_pos rfl, ltS_irrefl]
theorem ltV_trans {u v w : Vr} (h1 : ltV u v = true) (h2 : ltV v w = true) : ltV u w = true := by
  rw [ltV_eq] at *
  by_cases a : u.1 = v.1
  · rw [if_pos a] at h1
    by_cases b : v.1 = w.1
    · rw [if_pos b] at h2
      rw [if_pos (a.trans b)]
      exact ltS_trans h1 h2
    · rw [if_neg b] at h2
      rw [if_neg (by rw [a]; exact b), a]
      exact h2
  · rw [if_neg a] at h1
    by_cases b : v.1 = w.1
    · rw [if_neg (by rw [← b]; exact a), ← b]
      exact h1
    · rw [if_neg b] at h2
      have h3 := ltS_trans h1 h2
      by_cases c : u.1 = w.1
      · rw [c, ltS_irrefl] at h3
        cases h3
      · rw [if_neg c]
        exact h3
theorem ltV_tot {v w : Vr} (h : ltV v w = false) (n : v ≠ w) : ltV w v = true := by
  rw [ltV_eq] at *
  by_cases a : v.1 = w.1
  · rw [if_pos a] at h
    rw [if_pos a.symm]
    exact ltS_tot h fun e => n (Prod.ext a e)
  · rw [if_neg a] at h
    rw [if_neg fun e => a e.symm]
    exact ltS_tot h a
/-! ### sorted pairs -/
def insP (x : Vr × Tm) : Sub → Sub
  | [] => [x]
  | y :: ys => if ltV y.1 x.1 then y :: insP x ys else x :: y :: ys
def sortP : Sub → Sub
  | [] => []
  | x :: xs => insP x (sortP xs)
theorem mem_insP (x z : Vr × Tm) (l : Sub) : z ∈ insP x l ↔ z = x ∨ z ∈ l := by
  induction l with
  | nil => simp [insP]
  | cons y l ih =>
    rw [insP]
    cases ltV y.1 x.1
    · simp
    · simp [ih]
      exact or_left_comm
theorem mem_sortP (z : Vr × Tm) (l : Sub) : z ∈ sortP l ↔ z ∈ l := by
  induction l with
  | nil => simp [sortP]
  | cons y l ih => simp [sortP, mem_insP, ih]
theorem insP_len (x : Vr × Tm) (l : Sub) : (insP x l).length = l.length + 1 := by
  induction l with
  | nil => rfl
  | cons y l ih =>
    rw [insP]
    cases ltV y.1 x.1 <;> simp [ih]
theorem sortP_len (l : Sub) : (sortP l).length = l.length := by
  induction l with
  | nil => rfl
  | cons y l ih => rw [sortP, insP_len, ih, List.length_cons]
theorem insD_pairs (x : Vr × Tm) (l : Sub) (h : ∀ y ∈ l, y.1 ≠ x.1) : insD (pairD x) (l.map pairD) = (insP x l).map pairD := by
  induction l with
  | nil => rfl
  | cons y l ih =>
    have e : ltD (pairD y) (pairD x) = ltV y.1 x.1 := by
      rw [pairD, pairD, ltD, ltAll, eqv_var, if_neg (by simpa using h y (by simp))]
      rfl
    rw [List.map_cons, insD, insP, e, ih fun z hz => h z (by simp [hz])]
    cases ltV y.1 x.1 <;> rfl
theorem sortD_pairs (l : Sub) (h : (l.map (·.1)).Nodup) : sortD (l.map pairD) = (sortP l).map pairD := by
  induction l with
  | nil => rfl
  | cons y l ih =>
    rw [List.map_cons, List.nodup_cons] at h
    rw [List.map_cons, sortD, sortP, ih h.2, insD_pairs]
    intro z hz e
    exact h.1 (List.mem_map.mpr ⟨z, (mem_sortP _ _).mp hz, e⟩)
theorem pw_insP (x : Vr × Tm) : ∀ (l : Sub), (∀ y ∈ l, y.1 ≠ x.1) → l.Pairwise (fun a b => ltV a.1 b.1 = true) → (insP x l).Pairwise (fun a b => ltV a.1 b.1 = true)
  | [], _, _ => by simp [insP]
  | y :: l, h, p => by
    rw [List.pairwise_cons] at p
    rw [insP]
    cases e : ltV y.1 x.1 with
    | true =>
      rw [if_pos rfl, List.pairwise_cons]
      refine ⟨fun z hz => ?_, pw_insP x l (fun z hz => h z (by simp [hz])) p.2⟩
      rcases (mem_insP x z l).mp hz with rfl | hz
      · exact e
      · exact p.1 z hz
    | false =>
      have e2 := ltV_tot e (h y (by simp))
      simp only [Bool.false_eq_true, if_false, List.pairwise_cons]
      refine ⟨fun z hz => ?_, p⟩
      rcases List.mem_cons.mp hz with rfl | hz
      · exact e2
      · exact ltV_trans e2 (p.1 z hz)
theorem pw_sortP (l : Sub) (h : (l.map (·.1)).Nodup) : (sortP l).Pairwise (fun a b => ltV a.1 b.1 = true) := by
  induction l with
  | nil => simp [sortP]
  | cons y l ih =>
    rw [List.map_cons, List.nodup_cons] at h
    rw [sortP]
    refine pw_insP y _ (fun z hz e => h.1 (List.mem_map.mpr ⟨z, (mem_sortP _ _).mp hz, e⟩)) (ih h.2)
theorem pw_nodup : ∀ {l : Sub}, l.Pairwise (fun a b => ltV a.1 b.1 = true) → (l.map (·.1)).Nodup
  | [], _ => List.nodup_nil
  | x :: l, h => by
    rw [List.pairwise_cons] at h
    rw [List.map_cons, List.nodup_cons]
    refine ⟨fun m => ?_, pw_nodup h.2⟩
    obtain ⟨y, hy, e⟩ := List.mem_map.mp m
    have := h.1 y hy
    rw [e, ltV_irrefl] at this
    cases this
theorem pw_uniq : ∀ {a b : Sub}, a.Pairwise (fun a b => ltV a.1 b.1 = true) → b.Pairwise (fun a b => ltV a.1 b.1 = true) → (∀ p, p ∈ a ↔ p ∈ b) → a = b
  | [], [], _, _, _ => rfl
  | [], y :: b, _, _, h => by have := (h y).mpr (by simp); simp at this
  | x :: a, [], _, _, h => by have := (h x).mp (by simp); simp at this
  | x :: a, y :: b, ha, hb, h => by
    rw [List.pairwise_cons] at ha hb
    have e : x = y := by
      rcases List.mem_cons.mp ((h x).mp (by simp)) with e | hx
      · exact e
      · rcases List.mem_cons.mp ((h y).mpr (by simp)) with e | hy
        · exact e.symm
        · have := ltV_trans (ha.1 y hy) (hb.1 x hx)
          rw [ltV_irrefl] at this
          cases this
    subst e
    rw [pw_uniq ha.2 hb.2 fun p => ?_]
    have na : ∀ {l : Sub}, (∀ z ∈ l, ltV x.1 z.1 = true) → x ∉ l := fun hl m => by
      have := hl x m
      rw [ltV_irrefl] at this
      cases this
    constructor
    · intro hp
      rcases List.mem_cons.mp ((h p).mp (by simp [hp])) with rfl | hq
      · exact absurd hp (na ha.1)
      · exact hq
    · intro hp
      rcases List.mem_cons.mp ((h p).mpr (by simp [hp])) with rfl | hq
      · exact absurd hp (na hb.1)
      · exact hq
/-! ### what is told, as pairs -/
def told (M : Sub) : Sub := sortP (M.filter tellB)
theorem filt_nd {M : Sub} (h : (M.map (·.1)).Nodup) (p : Vr × Tm → Bool) : ((M.filter p).map (·.1)).Nodup := by
  induction M with
  | nil => simp
  | cons a M ih =>
    rw [List.map_cons, List.nodup_cons] at h
    rw [List.filter_cons]
    split
    · rw [List.map_cons, List.nodup_cons]
      refine ⟨fun m => ?_, ih h.2⟩
      obtain ⟨y, hy, e⟩ := List.mem_map.mp m
      exact h.1 (List.mem_map.mpr ⟨y, (List.mem_filter.mp hy).1, e⟩)
    · exact ih h.2
theorem toldD_eq {M : Sub} (h : Mo M) : toldD M = .tuple ((told M).map pairD) := by
  rw [toldD, toldL, sortD_pairs _ (filt_nd h.nd _), told]
theorem told_pw {M : Sub} (h : Mo M) : (told M).Pairwise (fun a b => ltV a.1 b.1 = true) := pw_sortP _ (filt_nd h.nd _)
def putV (M : Sub) (v : Vr) : Tm := (lkS M v).getD (.var v.1 v.2)
theorem tell_iff (p : Vr × Tm) : tellB p = true ↔ p.2 ≠ .var p.1.1 p.1.2 := by
  rw [tellB, Bool.not_eq_true', ← Bool.not_eq_true, eqT_iff]
theorem told_iff {M : Sub} (h : Mo M) (v : Vr) (t : Tm) : (v, t) ∈ told M ↔ putV M v = t ∧ t ≠ .var v.1 v.2 := by
  rw [told, mem_sortP, List.mem_filter, tell_iff]
  constructor
  · rintro ⟨h1, h2⟩
    refine ⟨?_, h2⟩
    rw [putV, lkS_mem h h1]
    rfl
  · rintro ⟨h1, h2⟩
    refine ⟨?_, h2⟩
    rw [putV] at h1
    cases e : lkS M v with
    | none => rw [e] at h1; exact absurd h1.symm h2
    | some u =>
      rw [e] at h1
      have : u = t := h1
      exact this ▸ lkS_in e
theorem told_ext {M N : Sub} (h : Mo M) (h' : Mo N) (e : ∀ v, putV M v = putV N v) : told M = told N :=
  pw_uniq (told_pw h) (told_pw h') fun p => by
    obtain ⟨v, t⟩ := p
    rw [told_iff h, told_iff h', e]
theorem toldD_ext {M N : Sub} (h : Mo M) (h' : Mo N) (e : ∀ v, putV M v = putV N v) : toldD M = toldD N := by
  rw [toldD_eq h, toldD_eq h', told_ext h h' e]
theorem told_mo {M : Sub} (h : Mo M) : Mo (told M) := ⟨pw_nodup (told_pw h), fun p hp => h.sz p (List.mem_filter.mp ((mem_sortP _ _).mp hp)).1⟩
theorem told_put {M : Sub} (h : Mo M) (v : Vr) : putV (told M) v = putV M v := by
  by_cases c : putV M v = .var v.1 v.2
  · rw [c, putV]
    cases e : lkS (told M) v with
    | none => rfl
    | some u =>
      have := (told_iff h v u).mp (lkS_in e)
      exact absurd (this.1.symm.trans c) this.2
  · have := (told_iff h v _).mpr ⟨rfl, c⟩
    rw [putV, lkS_mem (told_mo h) this]
    rfl
theorem told_len (M : Sub) : (told M).length ≤ M.length := by
  rw [told, sortP_len]
  exact List.length_filter_le _ _
theorem putT_v (M : Sub) (v : Vr) : putT M (.var v.1 v.2) = putV M v := by
  rw [putT, putV]
theorem putT_ext {M N : Sub} (e : ∀ v, putV M v = putV N v) (t : Tm) : putT M t = putT N t := by
  induction t using Tm.ind with
  | hv x s => rw [putT_v M (x, s), putT_v N (x, s), e]
  | ha f ts ih =>
    rw [putT, putT, putTs_map, putTs_map]
    exact congrArg _ (List.map_congr_left ih)
/-! ### one behind the other -/
def comp (A B : Sub) : Sub := A.map (fun p => (p.1, putT B p.2)) ++ B.filter fun p => (lkS A p.1).isNone
theorem lkS_map2 (A : Sub) (f : Tm → Tm) (v : Vr) : lkS (A.map fun p => (p.1, f p.2)) v = (lkS A v).map f := by
  induction A with
  | nil => rfl
  | cons a A ih =>
    rw [List.map_cons, lkS_cons, lkS_cons, ih]
    by_cases e : a.1 = v <;> simp [e]
theorem lkS_append (A B : Sub) (v : Vr) : lkS (A ++ B) v = (lkS A v).or (lkS B v) := by
  induction A with
  | nil => rfl
  | cons a A ih =>
    rw [List.cons_append, lkS_cons, lkS_cons, ih]
    by_cases e : a.1 = v <;> simp [e]
theorem lkS_filt (A B : Sub) (v : Vr) (h : lkS A v = none) : lkS (B.filter fun p => (lkS A p.1).isNone) v = lkS B v := by
  induction B with
  | nil => rfl
  | cons b B ih =>
    rw [List.filter_cons]
    by_cases e : b.1 = v
    · rw [e, h, if_pos (by rfl), lkS_cons, lkS_cons, if_pos e, if_pos e]
    · rw [lkS_cons, if_neg e]
      split
      · rw [lkS_cons, if_neg e, ih]
      · exact ih
theorem comp_put (A B : Sub) (v : Vr) : putV (comp A B) v = putT B (putV A v) := by
  rw [putV, comp, lkS_append, lkS_map2]
  cases e : lkS A v with
  | none =>
    rw [lkS_filt A B v e, putV, e]
    show ((lkS B v).getD _) = putT B (.var v.1 v.2)
    rw [putT_v]
    rfl
  | some t => rw [putV, e]; rfl
theorem comp_nd {A B : Sub} (ha : (A.map (·.1)).Nodup) (hb : (B.map (·.1)).Nodup) : ((comp A B).map (·.1)).Nodup := by
  rw [comp, List.map_append, List.map_map]
  rw [List.nodup_append]
  refine ⟨ha, filt_nd hb _, fun a h1 b h2 e => ?_⟩
  subst e
  obtain ⟨p, hp, rfl⟩ := List.mem_map.mp h2
  obtain ⟨hp, hn⟩ := List.mem_filter.mp hp
  obtain ⟨q, hq, e⟩ := List.mem_map.mp h1
  cases e2 : lkS A p.1 with
  | none => exact lkS_none e2 q hq e
  | some u => rw [e2] at hn; cases hn
end K02

namespace K02
open PySem Ev Hd Pl
/-! ### size, by the law's own -/
/-! ### the same -/
theorem c30n {k : Nat} (hk : 0 < k) (st : List Ob) : calls tb k 27 [.d .none, .d .none] st = .ok (.d (.bool true)) st := by
  rw [calls_at hk (fd := f27) rfl]
  refine callF_d rfl rfl ?_
  show exSs (calls tb (k - 1)) f27.body [some (.d .none), some (.d .none), none] st = _
  have q : cmpF .isN (.d .none) (.d .none) st = .ok (.d (.bool true)) st := rfl
  simp [f27, primF, isaD, q]
theorem c30b {k : Nat} (hk : 0 < k) (b : Bool) (st : List Ob) : calls tb k 27 [.d (.bool b), .d (.bool b)] st = .ok (.d (.bool true)) st := by
  rw [calls_at hk (fd := f27) rfl]
  refine callF_d rfl rfl ?_
  show exSs (calls tb (k - 1)) f27.body [some (.d (.bool b)), some (.d (.bool b)), none] st = _
  have q : cmpF .isN (.d (.bool b)) (.d .none) st = .ok (.d (.bool false)) st := rfl
  have q2 : cmpF .eq (.d (.bool b)) (.d (.bool b)) st = .ok (.d (.bool true)) st := by cases b <;> simp [cmpF]
  simp [f27, primF, isaD, q, q2]
theorem c30L {k : Nat} (hk : 0 < k) {xs : List D} (hl : xs.length ≤ 1000) (h : ∀ x ∈ xs, ∀ st, calls tb (k - 1) 27 [.d x, .d x] st = .ok (.d (.bool true)) st) (st : List Ob) : calls tb k 27 [.f (.lst xs), .f (.lst xs)] st = .ok (.d (.bool true)) st := by
  have pidx : ∀ a b st, primF .idx [a, b] st = idxF a b st := fun a b st => rfl
  rw [calls_at hk (fd := f27) rfl]
  refine callF_x (ex := [.lst xs, .lst xs]) (ex' := [.lst xs, .lst xs]) (rs' := [.o st.length, .o (st.length + 1)]) (env := [some (.o st.length), some (.o (st.length + 1)), none]) rfl (by simp) rfl rfl ?_
  obtain ⟨S, hS⟩ : ∃ S, S = st ++ [Ob.lst xs, .lst xs] := ⟨_, rfl⟩
  have g0 : S[st.length]? = some (.lst xs) := by rw [hS]; simp
  have g1 : S[st.length + 1]? = some (.lst xs) := by rw [hS]; simp
  rw [← hS]
  generalize st.length = a at g0 g1 ⊢
  have lk : ∀ j, S[j]? = some (.lst xs) → lockd S (.o j) = false := fun j hj => by simp [lockd, hj]
  have ia : ∀ j, S[j]? = some (.lst xs) → isaD S (.o j) .tuple = false ∧ isaD S (.o j) .list = true := fun j hj => by simp [isaD, hj]
  have p1 : primF (.isa [.tuple, .list]) [.o (a + 1)] S = .ok (.d (.bool true)) S := by simp [primF, lk _ g1, ia _ g1]
  have p2 : primF (.isa [.tuple]) [.o (a + 1)] S = .ok (.d (.bool false)) S := by simp [primF, lk _ g1, ia _ g1]
  have p3 : primF (.isa [.list]) [.o (a + 1)] S = .ok (.d (.bool true)) S := by simp [primF, lk _ g1, ia _ g1]
  have p2' : primF (.isa [.tuple]) [.o a] S = .ok (.d (.bool false)) S := by simp [primF, lk _ g0, ia _ g0]
  have p3' : primF (.isa [.list]) [.o a] S = .ok (.d (.bool true)) S := by simp [primF, lk _ g0, ia _ g0]
  have l0 : primF .len [.o a] S = .ok (.d (.int xs.length)) S := by simp [primF, lenOf, seqOf_o g0]
  have l1 : primF .len [.o (a + 1)] S = .ok (.d (.int xs.length)) S := by simp [primF, lenOf, seqOf_o g1]
  have q1 : ∀ b st, cmpF .ne (.d (.bool b)) (.d (.bool b)) st = .ok (.d (.bool false)) st := fun b st => by cases b <;> simp [cmpF]
  have q3 : ∀ st, cmpF .eq (.d (.int (xs.length : Int))) (.d (.int (xs.length : Int))) st = .ok (.d (.bool true)) st := fun st => by rw [cmp_eq_ii, decide_eq_true rfl]
  have w : evE (calls tb (k - 1)) (.prim .all (.cons (.comp (.call 27 (.cons (.prim .idx (.cons (.var 0) (.cons (.var 2) .nil))) (.cons (.prim .idx (.cons (.var 1) (.cons (.var 2) .nil))) .nil))) (.name 2) (.range1 (.prim .len (.cons (.var 1) .nil))) .no [2]) .nil)) [some (.o a), some (.o (a + 1)), none] S = .ok (.d (.bool true)) S := by
    rw [allcomp (l := List.range xs.length) (F := fun (k : Nat) => PyData.int (k : Int)) (g := none) (p := fun _ => true) (evI_range (by simp [l1]) (by omega)) fun q hq => ⟨_, rfl, ?_⟩]
    · simp
    · have hq' : q < xs.length := by simpa using hq
      have hi0 : idxF (.o a) (.d (.int q)) S = .ok (.d xs[q]) S := idx_o g0 (by simp [hq'])
      have hi1 : idxF (.o (a + 1)) (.d (.int q)) S = .ok (.d xs[q]) S := idx_o g1 (by simp [hq'])
      have hx := h _ (List.getElem_mem hq')
      generalize xs[q] = y at hi0 hi1 hx
      simp [wipeE, pidx, hi0, hi1, hx]
  have w0 : evE (calls tb (k - 1)) (.cmp .eq (.prim .len (.cons (.var 0) .nil)) (.prim .len (.cons (.var 1) .nil))) [some (.o a), some (.o (a + 1)), none] S = .ok (.d (.bool true)) S := by simp [l0, l1, q3]
  have w2 : evE (calls tb (k - 1)) (.andE (.cmp .eq (.prim .len (.cons (.var 0) .nil)) (.prim .len (.cons (.var 1) .nil))) (.prim .all (.cons (.comp (.call 27 (.cons (.prim .idx (.cons (.var 0) (.cons (.var 2) .nil))) (.cons (.prim .idx (.cons (.var 1) (.cons (.var 2) .nil))) .nil))) (.name 2) (.range1 (.prim .len (.cons (.var 1) .nil))) .no [2]) .nil))) [some (.o a), some (.o (a + 1)), none] S = .ok (.d (.bool true)) S := by
    rw [evE_and, w0, tst_ok, if_pos rfl, w]
  show exSs (calls tb (k - 1)) (.cons (.ite _ (.cons (.ite _ _ _) (.cons (.ret _) .nil)) _) _) _ _ = _
  refine go_ret ?_
  rw [exS_ite_t (st' := S) (by simp [p1])]
  rw [go_next (env' := [some (.o a), some (.o (a + 1)), none]) (st' := S) (by rw [exS_ite_f (st' := S) (by simp [p2, p3, p2', p3', q1]), exSs_nil])]
  exact go_ret (exS_ret' w2)
/-! ### the words of the errors -/
/-! ### a pair is right -/
end K02

namespace K02
open PySem Ev Hd Pl
theorem c28e {k : Nat} (hk : 1 < k) {n m i : Nat} {b : Ob} {xs : List D} (hx : xs.length < 1000000) (hm : m < 1000000) (st : List Ob) (hs : st[i]? = some b) (hb : Dk (n + m) b) :
    ∃ (ys : List D) (b' : Ob), (∀ y ∈ ys, y ∈ xs) ∧ ys.length = min xs.length m ∧ Dk n b' ∧ calls tb k 26 [.o i, .f (.lst xs), .d (.int m)] st = .ok (.f (.lst ys)) (st.set i b') := by
  have hi := lt_of_get hs
  obtain ⟨left', found', b', v5', a1, a2, a3, a4⟩ := some_loop (k := k - 1) (by omega) (n := n) (m : Int) st hi xs hx ((List.range (min xs.length m)).map fun (k : Nat) => (PyData.int (k : Int))) xs [] b none (by simp; omega) (by simp) (by simp) (by simp) (hb.mono (by simp; omega))
  refine ⟨found', b', a3, by simp at a2; omega, a4, ?_⟩
  rw [set_self hs] at a1
  rw [calls_at (by omega) (fd := f26) rfl]
  refine callF_o (ex := [.lst xs]) (ex' := [.lst xs, .lst left', .lst found']) (j := 2) (rs' := [.o i, .o st.length, .d (.int m)]) (env := [some (.o i), some (.o st.length), some (.d (.int m)), none, none, none]) rfl (by simp) rfl (by simp) (by simp) rfl ?_
  have hi' : evI (calls tb (k - 1)) (.range1 (.prim .min2 (.cons (.prim .len (.cons (.var 3) .nil)) (.cons (.var 2) .nil)))) [some (.o i), some (.o st.length), some (.d (.int m)), some (.o (st.length + 1)), some (.o (st.length + 2)), none] (st ++ [.lst xs, .lst xs, .lst []]) = .ok ((List.range (min xs.length m)).map fun (k : Nat) => (PyData.int (k : Int)), none) (st ++ [.lst xs, .lst xs, .lst []]) := by
    refine evI_range ?_ (by omega)
    have h0 : (st ++ [Ob.lst xs, .lst xs, .lst []])[st.length + 1]? = some (.lst xs) := by rw [List.getElem?_append_right (by omega)]; simp
    have hl : lenOf (st ++ [.lst xs, .lst xs, .lst []]) (.o (st.length + 1)) = some xs.length := by simp [lenOf, seqOf, lstOf]
    simp [primF, hl, intF]
    omega
  have h0 : seqOf (st ++ [Ob.lst xs]) (.o st.length) = some xs := by simp [seqOf, lstOf]
  simp [f26, primF, h0, toDs, parSet, hi', a1]
theorem h1 (st0 : List Ob) (b : Ob) (L : List Ob) : (st0 ++ b :: L)[st0.length]? = some b := by simp
theorem h2 (st0 : List Ob) (b b' : Ob) (L : List Ob) : (st0 ++ b :: L).set st0.length b' = st0 ++ b' :: L := by simp
theorem h4 (st0 : List Ob) (b K : Ob) (L : List Ob) : (st0 ++ b :: K :: L)[st0.length + 1]? = some K := by simp
theorem h5 (st0 : List Ob) (L : List Ob) (j : Nat) : (st0 ++ L)[st0.length + j]? = L[j]? := by rw [List.getElem?_append_right (by omega)]; simp
theorem h6 (st0 : List Ob) (L : List Ob) (j : Nat) (b : Ob) : (st0 ++ L).set (st0.length + j) b = st0 ++ L.set j b := by rw [List.set_append_right _ _ (by omega)]; simp
theorem ne_words (ws : List Str) (st : List Ob) : cmpF .ne (.f (.lst (ws.map .str))) (.f (.lst (ws.map .str))) st = .ok (.d (.bool false)) st := by
  have h : depthOk (.list (ws.map .str)) (.list (ws.map .str)) = true := dok_of (.inl (by rw [PyData.depth, depth_strs]; omega))
  simp only [cmpF, bothD_ff, h, if_true, eqv_ll, eqvAll_strs, decide_true, okB_eq, Bool.not_true]
theorem mul2 (w : Str) (st : List Ob) : primF .mul [.f (.lst [.str w]), .d (.int 2)] st = .ok (.f (.lst [.str w, .str w])) st := rfl
/-- a drawn term -/
theorem ev_term {k : Nat} (hk : 100 ≤ k) {s : Sg} (g : Gs s) {vs : List (Str × Str)} (hv : Kn s vs) (hvl : vs.length ≤ 1000) {st0 : List Ob} {b : Ob} {L : List Ob} {m : Nat} (hm0 : 0 < m) (hm : m ≤ 20) {x : Str} (hx : x ∈ allS s) {n : Nat} (hb : Dk (n + 200) b) {env : Envr}
    (e2 : env[2]? = some (some (.o st0.length))) (e3 : env[3]? = some (some (.d (sgD s)))) (e4 : env[4]? = some (some (.o (st0.length + 1)))) {SE : E} (hse : evE (calls tb k) SE env (st0 ++ b :: .lst (vs.map varD) :: L) = .ok (.d (.str x)) (st0 ++ b :: .lst (vs.map varD) :: L)) :
    ∃ (t : Tm) (b2 : Ob), WT s t x ∧ t.size ≤ m ∧ Dk n b2 ∧ evE (calls tb k) (.call 32 (.cons (.var 2) (.cons (.var 3) (.cons SE (.cons (.lst (.cons (.prim .add (.cons (.dat (.int 1)) (.cons (.call 24 (.cons (.var 2) (.cons (.dat (.int (m : Int))) .nil))) .nil))) .nil)) (.cons (.var 4) .nil)))))) env (st0 ++ b :: .lst (vs.map varD) :: L) = .ok (.d (tmD t)) (st0 ++ b2 :: .lst (vs.map varD) :: L) := by
  obtain ⟨r', b4, hr0, hr, d4, a4⟩ := c26 (k := k) (by omega) (n := n + 199) (i := st0.length) (many := (m : Int)) (by omega) (by omega) (st0 ++ b :: .lst (vs.map varD) :: L) (h1 _ _ _) hb
  rw [h2] at a4
  obtain ⟨r, rfl⟩ : ∃ r : Nat, r' = r := ⟨r'.toNat, by omega⟩
  obtain ⟨t, b5, ht, hz, d5, a5⟩ := c34f g hv (by omega) (r := r + 1) (by omega) (by omega) (k := k) (by omega) (n := n) (i := st0.length) (m := st0.length + 1) (x := x) hx (st0 ++ b4 :: .lst (vs.map varD) :: L) (h1 _ _ _) (h4 _ _ _ _) (by omega) (d4.mono (by omega))
  rw [h2] at a5
  have padd : ∀ st, primF .add [.d (.int 1), .d (.int r)] st = .ok (.d (.int ((r + 1 : Nat) : Int))) st := fun st => by
    have : (1 : Int) + r = ((r + 1 : Nat) : Int) := by omega
    simp [primF, addF, this]
  refine ⟨t, b5, ht, by omega, d5, ?_⟩
  simp only [evE_call, evEs_cons, evE_var, evE_lst, evE_prim, evE_dat, evEs_nil, rs_ok, e2, e3, e4, hse, a4, padd, toDs, toD_d, a5]
/-! ### substitutions of terms -/
structure VS (s : Sg) (M : Sub) (m : Nat) : Prop where
  wt : ∀ p ∈ M, WT s p.2 p.1.2
  sz : ∀ p ∈ M, p.2.size ≤ m
theorem vs_nil (s : Sg) (m : Nat) : VS s [] m := ⟨fun p hp => by simp at hp, fun p hp => by simp at hp⟩
theorem putS_mem {M : Sub} {v : Vr} {t : Tm} {p : Vr × Tm} (h : p ∈ putS M v t) : p ∈ M ∨ p = (v, t) := by
  rw [putS] at h
  split at h
  · obtain ⟨q, hq, rfl⟩ := List.mem_map.mp h
    by_cases e : q.1 = v
    · rw [if_pos e]
      exact .inr (by rw [← e])
    · rw [if_neg e]
      exact .inl hq
  · rcases List.mem_append.mp h with h | h
    · exact .inl h
    · exact .inr (by simpa using h)
theorem putS_len (M : Sub) (v : Vr) (t : Tm) : (putS M v t).length ≤ M.length + 1 := by
  rw [putS]
  split <;> simp
theorem VS.put {s : Sg} {M : Sub} {m : Nat} (h : VS s M m) {v : Vr} {t : Tm} (w : WT s t v.2) (z : t.size ≤ m) : VS s (putS M v t) m where
  wt := fun p hp => by
    rcases putS_mem hp with hp | rfl
    · exact h.wt p hp
    · exact w
  sz := fun p hp => by
    rcases putS_mem hp with hp | rfl
    · exact h.sz p hp
    · exact z
theorem put_wt {s : Sg} {M : Sub} {m : Nat} (h : VS s M m) {t : Tm} {x : Str} (w : WT s t x) : WT s (putT M t) x := by
  induction w with
  | @var x y h1 h2 =>
    rw [putT]
    cases e : lkS M (x, y) with
    | none => exact WT.var h1 h2
    | some u => exact h.wt _ (lkS_in e)
  | @app r ts h1 h2 h3 ih =>
    rw [putT, putTs_map]
    refine WT.app h1 (by simpa using h2) fun p hp => ?_
    rw [List.zip_map_left] at hp
    obtain ⟨q, hq, rfl⟩ := List.mem_map.mp hp
    exact ih q hq
theorem put_size {s : Sg} {M : Sub} {m : Nat} (h : VS s M m) (hm : 1 ≤ m) (t : Tm) : (putT M t).size ≤ m * t.size := by
  induction t using Tm.ind with
  | hv x y =>
    rw [putT]
    cases e : lkS M (x, y) with
    | none => simpa [Tm.size] using hm
    | some u =>
      have := h.sz _ (lkS_in e)
      simpa [Tm.size] using this
  | ha f ts ih =>
    rw [putT, putTs_map, Tm.size, Tm.size]
    have : sizes (ts.map (putT M)) ≤ m * sizes ts := by
      clear f
      induction ts with
      | nil => simp [sizes]
      | cons t ts iht =>
        have h1 := ih t (by simp)
        have h2 := iht fun u hu => ih u (by simp [hu])
        rw [List.map_cons, sizes, sizes, Nat.mul_add]
        omega
    rw [Nat.mul_add]
    omega
/-! ### dict of pairs -/
theorem pairs_s : ∀ ps : List (Vr × Tm), pairsT (ps.map pairD) = some (ps.map prD)
  | [] => rfl
  | p :: ps => by
    obtain ⟨k, hk⟩ := Option.isSome_iff_exists.mp (keyT_var p.1)
    rw [List.map_cons, pairD, pairsT, hk, pairs_s ps]
    rfl
theorem merge_s : ∀ (ps : List (Vr × Tm)) (M : Sub), mergeD (M.map prD) (ps.map prD) = (ps.foldl (fun M p => putS M p.1 p.2) M).map prD
  | [], M => rfl
  | p :: ps, M => by
    rw [List.foldl_cons, ← merge_s ps, ← dput_s]
    rfl
theorem fold_nd : ∀ (ps M : Sub), ((M ++ ps).map (·.1)).Nodup → ps.foldl (fun M p => putS M p.1 p.2) M = M ++ ps
  | [], M, _ => by simp
  | p :: ps, M, h => by
    have e : lkS M p.1 = none := by
      cases c : lkS M p.1 with
      | none => rfl
      | some u =>
        have := lkS_in c
        rw [List.map_append, List.nodup_append] at h
        exact absurd rfl (h.2.2 p.1 (List.mem_map.mpr ⟨_, this, rfl⟩) p.1 (by simp))
    rw [List.foldl_cons, putS_new e, fold_nd ps (M ++ [(p.1, p.2)]) (by simpa using h)]
    simp
theorem dict_t {ps : Sub} (h : (ps.map (·.1)).Nodup) (hl : ps.length ≤ 1000) (st : List Ob) : primF .dictT [.d (.tuple (ps.map pairD))] st = .ok (.f (.dit false (ps.map prD))) st := by
  have h1 := merge_s ps []
  rw [fold_nd ps [] (by simpa using h)] at h1
  simp only [List.map_nil, List.nil_append] at h1
  simp only [primF, dictF, seqOf_dt, pairs_s, h1]
  rw [if_pos (by simp; omega)]
theorem fold_vs {s : Sg} {m : Nat} : ∀ (ps : List (Vr × Tm)) (M : Sub), VS s M m → (∀ p ∈ ps, WT s p.2 p.1.2 ∧ p.2.size ≤ m) → VS s (ps.foldl (fun M p => putS M p.1 p.2) M) m
  | [], M, h, _ => h
  | p :: ps, M, h, k => by
    rw [List.foldl_cons]
    exact fold_vs ps _ (h.put (k p (by simp)).1 (k p (by simp)).2) fun q hq => k q (by simp [hq])
theorem cmp_lt_ii (a b : Int) (st : List Ob) : cmpF .lt (.d (.int a)) (.d (.int b)) st = .ok (.d (.bool (decide (a < b)))) st := by simp [cmpF, cmpOk, ltD]
end K02

namespace K02
open PySem Ev Hd Pl

theorem vE {Φ : Calls} {env : Envr} {st : List Ob} {i : Nat} {r : R} (h : env[i]? = some (some r)) : evE Φ (.var i) env st = .ok r st := by rw [evE_var, h]
theorem call1 {Φ : Calls} {env : Envr} {st st1 : List Ob} {a : E} {x : R} {f : Nat} (h1 : evE Φ a env st = .ok x st1) : evE Φ (.call f (.cons a .nil)) env st = Φ f [x] st1 := by
  rw [evE_call, evEs_cons, h1, rs_ok, evEs_nil, rs_ok, rs_ok]
theorem call2 {Φ : Calls} {env : Envr} {st st1 st2 : List Ob} {a b : E} {x y : R} {f : Nat} (h1 : evE Φ a env st = .ok x st1) (h2 : evE Φ b env st1 = .ok y st2) : evE Φ (.call f (.cons a (.cons b .nil))) env st = Φ f [x, y] st2 := by
  rw [evE_call, evEs_cons, h1, rs_ok, evEs_cons, h2, rs_ok, evEs_nil]
  rfl
theorem call3 {Φ : Calls} {env : Envr} {st st1 st2 st3 : List Ob} {a b c : E} {x y z : R} {f : Nat} (h1 : evE Φ a env st = .ok x st1) (h2 : evE Φ b env st1 = .ok y st2) (h3 : evE Φ c env st2 = .ok z st3) : evE Φ (.call f (.cons a (.cons b (.cons c .nil)))) env st = Φ f [x, y, z] st3 := by
  rw [evE_call, evEs_cons, h1, rs_ok, evEs_cons, h2, rs_ok, evEs_cons, h3, rs_ok, evEs_nil]
  rfl
theorem strs_of {Q : Str → Prop} : ∀ {ds : List D}, (∀ d ∈ ds, ∃ z, Q z ∧ d = .str z) → ∃ ns : List Str, ds = ns.map .str ∧ ∀ z ∈ ns, Q z
  | [], _ => ⟨[], rfl, by simp⟩
  | d :: ds, h => by
    obtain ⟨z, hz, rfl⟩ := h d (by simp)
    obtain ⟨ns, e1, hn⟩ := strs_of (Q := Q) (ds := ds) fun e he => h e (by simp [he])
    subst e1
    exact ⟨z :: ns, rfl, fun y hy => by
      rcases List.mem_cons.mp hy with rfl | hy
      · exact hz
      · exact hn y hy⟩
def nm7 : List Str := ["P", "Q1", "R", "X", "Y", "Z", "A"]
theorem nm7_ok : ∀ z ∈ nm7, isName (.str z) = true := by decide +kernel

end K02

namespace K02
open PySem Ev Hd Pl
/-! ### what is a substitution -/
def isVarD (s : Sg) : D → Bool
  | .tuple [.str x, b, c] => decide (x = "var") && isVar s b c
  | _ => false
theorem c11g {k : Nat} (hk : 1 < k) {s : Sg} (hs : Sm s) (d : D) (st : List Ob) : calls tb k 10 [.d (sgD s), .d d] st = .ok (.d (.bool (isVarD s d))) st := by
  cases hr : isRow 3 d with
  | true =>
    obtain ⟨a, b, c, rfl⟩ := isRow3 hr
    cases a with
    | str x =>
      by_cases hx : x = "var"
      · subst hx
        rw [c11 hk hs]
        simp [isVarD]
      · rw [calls_at (by omega) (fd := f10) rfl]
        refine callF_d rfl rfl ?_
        show exSs (calls tb (k - 1)) f10.body [some (.d (sgD s)), some (.d (.tuple [.str x, b, c]))] st = _
        have h1 : ∀ st, calls tb (k - 1) 0 [.d (.tuple [.str x, b, c]), .d (.int 3)] st = .ok (.d (.bool true)) st := fun st => c1 (k := k - 1) (by omega) (.tuple [.str x, b, c]) 3 st
        simp [f10, primF, idx3_0, h1, isaD, cmpF, isVarD, hx]
    | _ =>
      rw [calls_at (by omega) (fd := f10) rfl]
      refine callF_d rfl rfl ?_
      show exSs (calls tb (k - 1)) f10.body [some (.d (sgD s)), some (.d (.tuple [_, b, c]))] st = _
      have h1 : ∀ a st, calls tb (k - 1) 0 [.d (.tuple [a, b, c]), .d (.int 3)] st = .ok (.d (.bool true)) st := fun a st => c1 (k := k - 1) (by omega) (.tuple [a, b, c]) 3 st
      simp [f10, primF, idx3_0, h1, isaD, isVarD]
  | false =>
    rw [calls_at (by omega) (fd := f10) rfl]
    refine callF_d rfl rfl ?_
    show exSs (calls tb (k - 1)) f10.body [some (.d (sgD s)), some (.d d)] st = _
    have h1 : ∀ st, calls tb (k - 1) 0 [.d d, .d (.int 3)] st = .ok (.d (.bool false)) st := fun st => (c1 (k := k - 1) (by omega) d 3 st).trans (by rw [hr])
    have e : isVarD s d = false := by
      unfold isVarD
      split
      · simp [isRow] at hr
      · rfl
    simp [f10, h1, e]
theorem isVarD_of {s : Sg} {d : D} (h : isVarD s d = true) : ∃ v : Vr, d = varD v ∧ isName (.str v.1) = true ∧ v.2 ∈ setS (allS s) := by
  unfold isVarD at h
  split at h
  · rename_i x b c
    simp only [Bool.and_eq_true, decide_eq_true_eq, isVar] at h
    obtain ⟨rfl, h1, h2, h3⟩ := h
    cases b with
    | str y => cases c with
      | str z =>
        refine ⟨(y, z), (varD_tup (y, z)).symm, h1, ?_⟩
        obtain ⟨w, hw, e⟩ := List.any_eq_true.mp h3
        simp at e
        exact e ▸ hw
      | _ => simp [isStr] at h2
    | _ => simp [isName] at h1
  · cases h
theorem isVarD_var {s : Sg} {v : Vr} (h1 : isName (.str v.1) = true) (h2 : v.2 ∈ setS (allS s)) : isVarD s (varD v) = true := by
  rw [varD_tup]
  simp only [isVarD, isVar, h1, decide_true, Bool.true_and, isStr, List.any_eq_true]
  exact ⟨v.2, h2, by simp⟩
/-- the first of a pair -/
def fstD : D → D
  | .tuple (a :: _) => a
  | _ => .none
def thdD : D → D
  | .tuple [_, _, c] => c
  | _ => .none
/-- a pair that may stand -/
def pairGood (s : Sg) : D → Bool
  | .tuple [one, term] => isVarD s one && (PyData.eqv (srt s term) (thdD one) && !PyData.eqv term one)
  | _ => false
def ascD (l : List D) : Bool := (l.zip (l.drop 1)).all fun p => ltD p.1 p.2
def fitsU (s : Sg) : D → Bool
  | .tuple ps => ps.all (isRow 2) && (ps.all (pairGood s) && ascD (ps.map fstD))
  | _ => false
theorem isRow2 {d : D} : isRow 2 d = true → ∃ a b, d = .tuple [a, b] := by
  cases d with
  | tuple xs => match xs with
    | [a, b] => exact fun _ => ⟨a, b, rfl⟩
    | [] => intro h; simp [isRow] at h
    | [_] => intro h; simp [isRow] at h
    | _ :: _ :: _ :: _ => intro h; simp [isRow] at h
  | _ => intro h; simp [isRow] at h
theorem depth_var (v : Vr) : (varD v).depth = 1 := varD_depth v
theorem cmp_lt_var (v w : Vr) (st : List Ob) : cmpF .lt (.d (varD v)) (.d (varD w)) st = .ok (.d (.bool (ltV v w))) st := by
  simp only [cmpF, cmp_var, dok_var, Bool.and_self, if_true, ltV, okB_eq]
theorem good_vars {s : Sg} : ∀ {ps : List D}, (ps.all (pairGood s)) = true → ∃ vs : List Vr, ps.map fstD = vs.map varD
  | [], _ => ⟨[], rfl⟩
  | p :: ps, h => by
    rw [List.all_cons, Bool.and_eq_true] at h
    obtain ⟨vs, e⟩ := good_vars h.2
    have h1 := h.1
    unfold pairGood at h1
    split at h1
    · rw [Bool.and_eq_true] at h1
      obtain ⟨v, hv, _⟩ := isVarD_of h1.1
      refine ⟨v :: vs, ?_⟩
      rw [List.map_cons, List.map_cons, e]
      show (_ : D) :: _ = _
      rw [← hv]
      rfl
    · cases h1
theorem c4v {k : Nat} (hk : 0 < k) (l : List Vr) (st : List Ob) : calls tb k 3 [.f (.lst (l.map varD))] st = .ok (.d (.bool (ascD (l.map varD)))) st := by
  rw [calls_at hk (fd := f3) rfl]
  refine callF_x (ex := [.lst (l.map varD)]) (ex' := [.lst (l.map varD)]) rfl rfl rfl rfl ?_
  have hs : (st ++ [Ob.lst (l.map varD)])[st.length]? = some (.lst (l.map varD)) := by simp
  have hz : ∀ m : List D, zipOk (l.map varD) m = true := fun m => zipOk_l fun x hx => by
    obtain ⟨v, _, rfl⟩ := List.mem_map.mp hx
    rw [varD_tup]
    rfl
  have e : ascD (l.map varD) = (l.zip (l.drop 1)).all fun p => ltV p.1 p.2 := by
    rw [ascD, ← List.map_drop, List.zip_map, List.all_map]
    rfl
  have w : evE (calls tb (k - 1)) (.prim .all (.cons (.comp (.cmp .lt (.var 1) (.var 2)) (.tup [1, 2]) (.zip (.var 0) (.slc (.var 0) (.yes (.dat (.int 1))) .no)) .no [1, 2]) .nil)) [some (.o st.length), none, none] (st ++ [.lst (l.map varD)]) = .ok (.d (.bool (ascD (l.map varD)))) (st ++ [.lst (l.map varD)]) := by
    rw [e]
    refine allcomp (l := l.zip (l.drop 1)) (F := fun p => .tuple [varD p.1, varD p.2]) (g := some st.length) ?_ fun p _ => ⟨_, rfl, ?_⟩
    · simp only [evI, evE_var, List.getElem?_cons_zero, rs_ok, evE_slc, evO_yes, evE_dat, evO_no, slcF, lstOf, hs, cut1]
      rw [if_pos (hz _), ← List.map_drop, List.zipWith_map, List.zip, List.map_zipWith]
    · simp [wipeE, setAll, cmp_lt_var]
  show exSs (calls tb (k - 1)) f3.body [some (.o st.length), none, none] _ = _
  simp [f3, w]
end K02

namespace K02
open PySem Ev Hd Pl
/-- a for that hands back False at the first bad item -/
theorem for_all {body : D → Envr → List Ob → Fl} {g : Option Nat} {st : List Ob} (P : D → Bool) (I : Envr → Prop) : ∀ (xs : List D), (∀ x ∈ xs, ∀ env, I env → (P x = true → ∃ env', I env' ∧ body x env st = .next env' st) ∧ (P x = false → body x env st = .ret (.d (.bool false)) st)) →
    ∀ env, I env → (xs.all P = true → ∃ env', I env' ∧ loopS body g xs env st = .next env' st) ∧ (xs.all P = false → loopS body g xs env st = .ret (.d (.bool false)) st)
  | [], _, env, h => ⟨fun _ => ⟨env, h, loopS_nil _ _ _ _⟩, fun h => by simp at h⟩
  | x :: xs, hs, env, h => by
    obtain ⟨h1, h2⟩ := hs x (by simp) env h
    cases e : P x with
    | true =>
      obtain ⟨env', i', e1⟩ := h1 e
      obtain ⟨k1, k2⟩ := for_all (g := g) P I xs (fun y hy => hs y (by simp [hy])) env' i'
      rw [List.all_cons, e, Bool.true_and, loopS_next e1 (same_rfl g st)]
      exact ⟨k1, k2⟩
    | false =>
      rw [List.all_cons, e, Bool.false_and, loopS_ret (h2 e)]
      exact ⟨fun h => (by cases h), fun _ => rfl⟩
theorem idx_v3 (v : Vr) (st : List Ob) : primF .idx [.d (varD v), .d (.int 2)] st = .ok (.d (.str v.2)) st := idx_var2 v st
theorem idx_v4 (v : Vr) (st : List Ob) : primF .idx [.d (varD v), .d (.int 0)] st = .ok (.d (.str "var")) st := by rw [varD_tup]; rfl
theorem thdD_var (v : Vr) : thdD (varD v) = .str v.2 := by rw [varD_tup]; rfl
theorem firsts_ev {Φ : Calls} {ps : List D} (hr : ps.all (isRow 2) = true) {e0 a b : Option R} {T : Envr} (st : List Ob) : evE Φ (.comp (.prim .idx (.cons (.var 2) (.cons (.dat (.int 0)) .nil))) (.name 2) (.of (.var 1)) .no [2]) (e0 :: some (.d (.tuple ps)) :: a :: T) st = .ok (.f (.lst (ps.map fstD))) st := by
  have h := cmap (Φ := Φ) (env := e0 :: some (.d (.tuple ps)) :: a :: T) (st := st) (g := none) (l := ps) (F := id) (h := fstD) (src := .of (.var 1)) (elt := .prim .idx (.cons (.var 2) (.cons (.dat (.int 0)) .nil))) (tg := .name 2) (own := [2]) (by rw [List.map_id]; exact evI_tuple (by simp)) fun p hp => by
    obtain ⟨x, y, rfl⟩ := isRow2 (List.all_eq_true.mp hr p hp)
    refine ⟨_, .d x, rfl, ?_, rfl⟩
    have hi : primF .idx [.d (.tuple [x, y]), .d (.int 0)] st = .ok (.d x) st := rfl
    simp [wipeE, hi]
  exact h
/-- what 13 does with a pair -/
def f13_b0 : Ss := (.cons (.ite (.orE (.notE (.call 10 (.cons (.var 0) (.cons (.var 3) .nil)))) (.orE (.cmp .ne (.call 11 (.cons (.var 0) (.cons (.var 4) .nil))) (.prim .idx (.cons (.var 3) (.cons (.dat (.int 2)) .nil)))) (.cmp .eq (.var 4) (.var 3)))) (.cons (.ret (.dat (.bool false))) .nil) .nil) .nil)
theorem srt_ne (s : Sg) (t : D) (x : Str) (st : List Ob) : cmpF .ne (.d (srt s t)) (.d (.str x)) st = .ok (.d (.bool (!PyData.eqv (srt s t) (.str x)))) st := by
  simp only [cmpF, bothD_dd, dok_sr, if_true, okB_eq]
theorem eq_var (t : D) (v : Vr) (st : List Ob) : cmpF .eq (.d t) (.d (varD v)) st = .ok (.d (.bool (PyData.eqv t (varD v)))) st := by
  have : depthOk t (varD v) = true := dok_of (.inr (by rw [varD_depth]; omega))
  simp only [cmpF, bothD_dd, this, if_true, okB_eq]
theorem c13 {k n : Nat} {s : Sg} (g : Gs s) {d : D} (hd : d.depth ≤ n) (hk : n + 5 ≤ k) (st : List Ob) : calls tb k 13 [.d (sgD s), .d d] st = .ok (.d (.bool (fitsU s d))) st := by
  rw [calls_at (by omega) (fd := f13) rfl]
  refine callF_d rfl rfl ?_
  show exSs (calls tb (k - 1)) f13.body [some (.d (sgD s)), some (.d d), none, none, none] st = _
  cases d with
  | tuple ps =>
    have w0 : evE (calls tb (k - 1)) (.prim .all (.cons (.comp (.call 0 (.cons (.var 2) (.cons (.dat (.int 2)) .nil))) (.name 2) (.of (.var 1)) .no [2]) .nil)) [some (.d (sgD s)), some (.d (.tuple ps)), none, none, none] st = .ok (.d (.bool (ps.all (isRow 2)))) st := by
      refine allcomp (l := ps) (F := id) (g := none) (by rw [List.map_id]; exact evI_tuple (by simp)) fun p _ => ⟨_, rfl, ?_⟩
      have h1 : calls tb (k - 1) 0 [.d p, .d (.int 2)] st = .ok (.d (.bool (isRow 2 p))) st := c1 (k := k - 1) (by omega) p 2 st
      simp [wipeE, h1]
    have pt : ∀ st, primF (.isa [.tuple]) [.d (.tuple ps)] st = .ok (.d (.bool true)) st := fun st => rfl
    have x0 : evE (calls tb (k - 1)) (.orE (.notE (.prim (.isa [.tuple]) (.cons (.var 1) .nil))) (.notE (.prim .all (.cons (.comp (.call 0 (.cons (.var 2) (.cons (.dat (.int 2)) .nil))) (.name 2) (.of (.var 1)) .no [2]) .nil)))) [some (.d (sgD s)), some (.d (.tuple ps)), none, none, none] st = .ok (.d (.bool (!ps.all (isRow 2)))) st := by
      rw [evE_or, evE_not, evE_prim, evEs_cons, evE_var]
      simp only [List.getElem?_cons_zero, List.getElem?_cons_succ, rs_ok, evEs_nil, pt, tst_ok, okB_eq, Bool.not_true, Bool.false_eq_true, if_false]
      rw [evE_not, w0]
      rfl
    have ef : f13.body = .cons (.ite (.orE (.notE (.prim (.isa [.tuple]) (.cons (.var 1) .nil))) (.notE (.prim .all (.cons (.comp (.call 0 (.cons (.var 2) (.cons (.dat (.int 2)) .nil))) (.name 2) (.of (.var 1)) .no [2]) .nil)))) (.cons (.ret (.dat (.bool false))) .nil) .nil) (.cons (.for (.tup [3, 4]) (.of (.var 1)) f13_b0) (.cons (.ret (.call 3 (.cons (.comp (.prim .idx (.cons (.var 2) (.cons (.dat (.int 0)) .nil))) (.name 2) (.of (.var 1)) .no [2]) .nil))) .nil)) := rfl
    rw [ef]
    cases hr : ps.all (isRow 2) with
    | false =>
      rw [hr] at x0
      rw [show fitsU s (.tuple ps) = false by simp only [fitsU, hr, Bool.false_and]]
      exact go_ret (by rw [exS_ite_t x0]; simp)
    | true =>
      rw [hr] at x0
      rw [go_next (env' := [some (.d (sgD s)), some (.d (.tuple ps)), none, none, none]) (st' := st) (by rw [exS_ite_f x0]; simp)]
      obtain ⟨l1, l2⟩ := for_all (body := forB (calls tb (k - 1)) (.tup [3, 4]) f13_b0) (g := none) (st := st) (pairGood s) (fun env => ∃ b c, env = [some (.d (sgD s)), some (.d (.tuple ps)), none, b, c]) ps (by
        rintro p hp _ ⟨b, c, rfl⟩
        obtain ⟨x, y, rfl⟩ := isRow2 (List.all_eq_true.mp hr p hp)
        have hdp : (PyData.tuple [x, y]).depth + 1 ≤ n := by
          have := depth_mem hp
          rw [PyData.depth] at hd
          omega
        have hy : y.depth + 2 ≤ n := by
          simp only [PyData.depth, PyData.depthAll] at hdp
          omega
        have h10 : calls tb (k - 1) 10 [.d (sgD s), .d x] st = .ok (.d (.bool (isVarD s x))) st := c11g (by omega) g.toSm x st
        have h11 : calls tb (k - 1) 11 [.d (sgD s), .d y] st = .ok (.d (srt s y)) st := c12 g.toSm (n - 2) y (by omega) (by omega) st
        have hb : forB (calls tb (k - 1)) (.tup [3, 4]) f13_b0 (.tuple [x, y]) [some (.d (sgD s)), some (.d (.tuple ps)), none, b, c] st = exSs (calls tb (k - 1)) f13_b0 [some (.d (sgD s)), some (.d (.tuple ps)), none, some (.d x), some (.d y)] st := forB_eq rfl
        rw [hb]
        cases hv : isVarD s x with
        | false =>
          rw [hv] at h10
          refine ⟨fun h => by simp [pairGood, hv] at h, fun _ => ?_⟩
          simp [f13_b0, h10]
        | true =>
          rw [hv] at h10
          obtain ⟨v, rfl, _⟩ := isVarD_of hv
          have e : pairGood s (.tuple [varD v, y]) = (PyData.eqv (srt s y) (.str v.2) && !PyData.eqv y (varD v)) := by rw [pairGood, hv, thdD_var, Bool.true_and]
          rw [e]
          cases c1 : PyData.eqv (srt s y) (.str v.2) <;> cases c2 : PyData.eqv y (varD v) <;> simp [f13_b0, h10, h11, idx_v3, srt_ne, eq_var, c1, c2]) [some (.d (sgD s)), some (.d (.tuple ps)), none, none, none] ⟨none, none, rfl⟩
      have hi : evI (calls tb (k - 1)) (.of (.var 1)) [some (.d (sgD s)), some (.d (.tuple ps)), none, none, none] st = .ok (ps, none) st := evI_tuple (by simp)
      cases hg : ps.all (pairGood s) with
      | false =>
        rw [show fitsU s (.tuple ps) = false by simp only [fitsU, hg, Bool.false_and, Bool.and_false]]
        exact go_ret (by rw [exS_for, hi, fl_ok]; exact l2 hg)
      | true =>
        obtain ⟨_, ⟨b, c, rfl⟩, e1⟩ := l1 hg
        rw [go_next (by rw [exS_for, hi, fl_ok]; exact e1)]
        obtain ⟨vs, hvs⟩ := good_vars hg
        have h3 : calls tb (k - 1) 3 [.f (.lst (ps.map fstD))] st = .ok (.d (.bool (ascD (ps.map fstD)))) st := by rw [hvs]; exact c4v (by omega) vs st
        rw [show fitsU s (.tuple ps) = ascD (ps.map fstD) by simp only [fitsU, hg, hr, Bool.true_and]]
        refine go_ret (exS_ret' ?_)
        rw [call1 (firsts_ev (b := none) hr st), h3]
  | _ => simp [f13, primF, isaD, fitsU]
end K02

namespace K02
open PySem Ev Hd Pl
/-! ### the law's own: what is a substitution -/
def f38_b0 : Ss := (.cons (.asg 5 (.call 36 (.cons (.var 0) (.cons (.var 3) .nil)))) (.cons (.ite (.orE (.cmp .isN (.var 5) (.dat .none)) (.orE (.cmp .ne (.prim .idx (.cons (.var 3) (.cons (.dat (.int 0)) .nil))) (.dat (.str "var"))) (.orE (.cmp .ne (.call 36 (.cons (.var 0) (.cons (.var 4) .nil))) (.var 5)) (.cmp .eq (.var 3) (.var 4))))) (.cons (.ret (.dat (.bool false))) .nil) .nil) .nil))
def f38_c2 : E := (.comp (.cmp .lt (.prim .idx (.cons (.var 6) (.cons (.var 7) .nil))) (.prim .idx (.cons (.var 6) (.cons (.prim .add (.cons (.var 7) (.cons (.dat (.int 1)) .nil))) .nil)))) (.name 7) (.range1 (.prim .sub (.cons (.prim .len (.cons (.var 6) .nil)) (.cons (.dat (.int 1)) .nil)))) .no [7])
theorem srt_row (s : Sg) (a b c : D) : srt s (.tuple [a, b, c]) = srtRow s [a, b, c] := by rw [srt]
theorem srt_nt {s : Sg} {d : D} (h : ∀ xs, d ≠ .tuple xs) : srt s d = .none := by
  cases d with
  | tuple xs => exact absurd rfl (h xs)
  | _ => rw [srt]; simp
/-- a term whose sort is told is a variable, or begins otherwise -/
theorem srt_cases {s : Sg} {d : D} {x : Str} (h : srt s d = .str x) : (∃ v : Vr, d = varD v ∧ isVarD s d = true ∧ x = v.2) ∨ (isVarD s d = false ∧ ∃ z b c, d = .tuple [.str z, b, c] ∧ z ≠ "var") := by
  cases d with
  | tuple xs =>
    match xs with
    | [a, b, c] =>
      rw [srt_row] at h
      cases a with
      | str z =>
        by_cases hz : z = "var"
        · subst hz
          rw [srtRow, if_pos rfl] at h
          by_cases hv : isVar s b c = true
          · rw [if_pos hv] at h
            have h1 : isVarD s (.tuple [.str "var", b, c]) = true := by simp [isVarD, hv]
            obtain ⟨v, e, _⟩ := isVarD_of h1
            refine .inl ⟨v, e, h1, ?_⟩
            rw [varD_tup] at e
            injection e with e
            injection e with _ e
            injection e with _ e
            injection e with e _
            rw [e] at h
            injection h with h
            exact h.symm
          · rw [if_neg hv] at h
            cases h
        · exact .inr ⟨by simp [isVarD, hz], z, b, c, rfl, hz⟩
      | _ => simp [srtRow] at h
    | [] =>
      have e : srt s (.tuple ([])) = .none := by rw [srt, srtRow]; simp
      rw [e] at h; cases h
    | [a] =>
      have e : srt s (.tuple ([a])) = .none := by rw [srt, srtRow]; simp
      rw [e] at h; cases h
    | [a, b] =>
      have e : srt s (.tuple ([a, b])) = .none := by rw [srt, srtRow]; simp
      rw [e] at h; cases h
    | a :: b :: c :: d :: l =>
      have e : srt s (.tuple (a :: b :: c :: d :: l)) = .none := by rw [srt, srtRow]; simp
      rw [e] at h; cases h
  | none => rw [srt_nt (by simp)] at h; cases h
  | bool b => rw [srt_nt (by simp)] at h; cases h
  | int i => rw [srt_nt (by simp)] at h; cases h
  | str z => rw [srt_nt (by simp)] at h; cases h
  | list l => rw [srt_nt (by simp)] at h; cases h
  | dict l => rw [srt_nt (by simp)] at h; cases h
theorem srt_var {s : Sg} {v : Vr} (h : isVarD s (varD v) = true) : srt s (varD v) = .str v.2 := by
  rw [varD_tup] at h ⊢
  simp only [isVarD, decide_true, Bool.true_and] at h
  rw [srt_row, srtRow, if_pos rfl, if_pos h]
theorem isVarD_srt {s : Sg} {d : D} (h : srt s d = .none) : isVarD s d = false := by
  cases e : isVarD s d with
  | false => rfl
  | true =>
    obtain ⟨v, rfl, _⟩ := isVarD_of e
    rw [srt_var e] at h
    cases h
theorem isN_d (d : D) (st : List Ob) : cmpF .isN (.d d) (.d .none) st = .ok (.d (.bool (isNoneD d))) st := by
  simp only [cmpF, isNon_d, okB_eq]
theorem var_eq (v : Vr) (t : D) (st : List Ob) : cmpF .eq (.d (varD v)) (.d t) st = .ok (.d (.bool (PyData.eqv (varD v) t))) st := by
  simp only [cmpF, bothD_dd, dok_var, if_true, okB_eq]
theorem eqv_var_symm (v : Vr) (t : D) : PyData.eqv (varD v) t = PyData.eqv t (varD v) := by
  rw [varD_tup]
  cases t with
  | tuple xs =>
    match xs with
    | [a, b, c] =>
      have key : ∀ (x : Str) (d : D), PyData.eqv (.str x) d = PyData.eqv d (.str x) := fun x d => by
        cases d <;> first | (rw [PyData.eqv, PyData.eqv] <;> (first | (apply decide_eq_decide.mpr; exact eq_comm) | simp [Bool.beq_comm])) | (rw [PyData.eqv, PyData.eqv]; simp) | rfl
      simp only [eqv_tt, eqvAll_cc, eqvAll_nn, key]
    | [] => simp
    | [_] => simp
    | [_, _] => simp
    | _ :: _ :: _ :: _ :: _ => simp
  | _ => simp [PyData.eqv]
theorem get_asc : ∀ (l : List D) (n : Nat), ((List.range' n (l.length - 1)).all fun k => match l[k - n]?, l[k - n + 1]? with
    | some a, some b => ltD a b
    | _, _ => true) = ascD l
  | [], n => rfl
  | [a], n => rfl
  | a :: b :: l, n => by
    have ih := get_asc (b :: l) (n + 1)
    rw [show (a :: b :: l).length - 1 = ((b :: l).length - 1) + 1 by simp, List.range'_succ, List.all_cons]
    have h2 : ((List.range' (n + 1) ((b :: l).length - 1)).all fun k => match (a :: b :: l)[k - n]?, (a :: b :: l)[k - n + 1]? with
      | some a, some b => ltD a b
      | _, _ => true) = ascD (b :: l) := by
      rw [← ih]
      rw [Bool.eq_iff_iff, List.all_eq_true, List.all_eq_true]
      have key : ∀ k, k ∈ List.range' (n + 1) ((b :: l).length - 1) → (a :: b :: l)[k - n]? = (b :: l)[k - (n + 1)]? ∧ (a :: b :: l)[k - n + 1]? = (b :: l)[k - (n + 1) + 1]? := fun k hk => by
        have := List.mem_range'_1.mp hk
        obtain ⟨j, rfl⟩ : ∃ j, k = n + 1 + j := ⟨k - (n + 1), by omega⟩
        rw [show n + 1 + j - n = j + 1 by omega, show n + 1 + j - (n + 1) = j by omega]
        exact ⟨rfl, rfl⟩
      constructor
      · intro h k hk
        have := h k hk
        rw [(key k hk).1, (key k hk).2] at this
        exact this
      · intro h k hk
        have := h k hk
        rw [(key k hk).1, (key k hk).2]
        exact this
    rw [h2, Nat.sub_self]
    rfl
end K02

namespace K02
open PySem Ev Hd Pl
theorem evI_range1i {Φ : Calls} {e : E} {env : Envr} {st : List Ob} {i : Int} (h : evE Φ e env st = .ok (.d (.int i)) st) (h1 : i < 1000000) (h2 : -1000000 < i) : evI Φ (.range1 e) env st = .ok ((List.range i.toNat).map fun (k : Nat) => (PyData.int (k : Int)), none) st := by
  rw [evI, h, rs_ok]
  exact if_pos ⟨h1, h2⟩
theorem asc_ev {Φ : Calls} {l : List Vr} (hl : l.length < 2000) {j : Nat} {st : List Ob} (hj : st[j]? = some (.lst (l.map varD))) {e0 e1 e2 e3 e4 e5 e7 : Option R} : evE Φ (.prim .all (.cons f38_c2 .nil)) [e0, e1, e2, e3, e4, e5, some (.o j), e7] st = .ok (.d (.bool (ascD (l.map varD)))) st := by
  have hlen : primF .len [.o j] st = .ok (.d (.int (l.length : Int))) st := by simp only [primF, lenOf, seqOf_o hj, List.length_map]
  have hi : evI Φ (.range1 (.prim .sub (.cons (.prim .len (.cons (.var 6) .nil)) (.cons (.dat (.int 1)) .nil)))) [e0, e1, e2, e3, e4, e5, some (.o j), e7] st = .ok ((List.range (l.length - 1)).map fun (k : Nat) => (PyData.int (k : Int)), none) st := by
    have h := evI_range1i (Φ := Φ) (e := .prim .sub (.cons (.prim .len (.cons (.var 6) .nil)) (.cons (.dat (.int 1)) .nil))) (env := [e0, e1, e2, e3, e4, e5, some (.o j), e7]) (st := st) (i := (l.length : Int) - 1) (by
      have hs : primF .sub [.d (.int (l.length : Int)), .d (.int 1)] st = .ok (.d (.int ((l.length : Int) - 1))) st := rfl
      rw [evE_prim, evEs_cons, evE_prim, evEs_cons]
      simp only [evE_var, List.getElem?_cons_zero, List.getElem?_cons_succ, rs_ok, evEs_nil, hlen, evEs_cons, evE_dat, hs]) (by omega) (by omega)
    rw [show ((l.length : Int) - 1).toNat = l.length - 1 by omega] at h
    exact h
  have e : ascD (l.map varD) = (List.range (l.length - 1)).all fun q => match (l.map varD)[q]?, (l.map varD)[q + 1]? with
    | some a, some b => ltD a b
    | _, _ => true := by
    rw [← get_asc (l.map varD) 0, List.length_map, List.range_eq_range']
    simp only [Nat.sub_zero]
    all_goals rfl
  rw [e]
  refine allcomp hi fun q hq => ⟨_, rfl, ?_⟩
  have hq' := List.mem_range.mp hq
  have g0 : (l.map varD)[q]? = some (varD l[q]) := by simp [show q < l.length by omega]
  have g1 : (l.map varD)[q + 1]? = some (varD l[q + 1]) := by simp [show q + 1 < l.length by omega]
  have i0 : primF .idx [.o j, .d (.int (q : Int))] st = .ok (.d (varD l[q])) st := idx_o hj g0
  have i1 : primF .idx [.o j, .d (.int ((q + 1 : Nat) : Int))] st = .ok (.d (varD l[q + 1])) st := idx_o hj g1
  have ad : primF .add [.d (.int (q : Int)), .d (.int 1)] st = .ok (.d (.int ((q + 1 : Nat) : Int))) st := rfl
  rw [g0, g1]
  have hc := cmp_lt_var l[q] l[q + 1] st
  generalize l[q] = u at i0 hc ⊢
  generalize l[q + 1] = w at i1 hc ⊢
  simp only [wipeE, List.set_cons_succ, List.set_cons_zero, evE_cmpE, evE_prim, evEs_cons, evE_var, evE_dat, evEs_nil, rs_ok, List.getElem?_cons_zero, List.getElem?_cons_succ, i0, ad, i1, hc, ltV]
theorem c38 {k n : Nat} {s : Sg} (g : Gs s) {d : D} (hd : d.depth ≤ n) (hz : ∀ ps, d = .tuple ps → ps.length < 2000) (hk : n + 5 ≤ k) (st : List Ob) : calls tb k 38 [.d (sgD s), .d d] st = .ok (.d (.bool (fitsU s d))) st := by
  rw [calls_at (by omega) (fd := f38) rfl]
  by_cases ht : ∃ ps, d = .tuple ps
  · obtain ⟨ps, rfl⟩ := ht
    have hz := hz ps rfl
    have w0 : evE (calls tb (k - 1)) (.prim .all (.cons (.comp (.andE (.prim (.isa [.tuple]) (.cons (.var 2) .nil)) (.cmp .eq (.prim .len (.cons (.var 2) .nil)) (.dat (.int 2)))) (.name 2) (.of (.var 1)) .no [2]) .nil)) [some (.d (sgD s)), some (.d (.tuple ps)), none, none, none, none, none, none] st = .ok (.d (.bool (ps.all (isRow 2)))) st := by
      refine allcomp (l := ps) (F := id) (g := none) (by rw [List.map_id]; exact evI_tuple (by simp)) fun p _ => ⟨_, rfl, ?_⟩
      cases p with
      | tuple xs =>
        have e : isRow 2 (.tuple xs) = decide ((xs.length : Int) = 2) := by
          rw [isRow]
          apply decide_eq_decide.mpr
          omega
        simp [wipeE, primF, isaD, lenOf, seqOf, cmp_eq_ii, e]
      | _ => simp [wipeE, primF, isaD, isRow]
    have pt : ∀ st, primF (.isa [.tuple]) [.d (.tuple ps)] st = .ok (.d (.bool true)) st := fun st => rfl
    have x0 : evE (calls tb (k - 1)) (.orE (.notE (.prim (.isa [.tuple]) (.cons (.var 1) .nil))) (.notE (.prim .all (.cons (.comp (.andE (.prim (.isa [.tuple]) (.cons (.var 2) .nil)) (.cmp .eq (.prim .len (.cons (.var 2) .nil)) (.dat (.int 2)))) (.name 2) (.of (.var 1)) .no [2]) .nil)))) [some (.d (sgD s)), some (.d (.tuple ps)), none, none, none, none, none, none] st = .ok (.d (.bool (!ps.all (isRow 2)))) st := by
      rw [evE_or, evE_not, evE_prim, evEs_cons, evE_var]
      simp only [List.getElem?_cons_zero, List.getElem?_cons_succ, rs_ok, evEs_nil, pt, tst_ok, okB_eq, Bool.not_true, Bool.false_eq_true, if_false]
      rw [evE_not, w0]
      rfl
    have ef : f38.body = .cons (.ite (.orE (.notE (.prim (.isa [.tuple]) (.cons (.var 1) .nil))) (.notE (.prim .all (.cons (.comp (.andE (.prim (.isa [.tuple]) (.cons (.var 2) .nil)) (.cmp .eq (.prim .len (.cons (.var 2) .nil)) (.dat (.int 2)))) (.name 2) (.of (.var 1)) .no [2]) .nil)))) (.cons (.ret (.dat (.bool false))) .nil) .nil) (.cons (.for (.tup [3, 4]) (.of (.var 1)) f38_b0) (.cons (.asg 6 (.comp (.prim .idx (.cons (.var 2) (.cons (.dat (.int 0)) .nil))) (.name 2) (.of (.var 1)) .no [2])) (.cons (.ret (.prim .all (.cons f38_c2 .nil))) .nil))) := rfl
    cases hr : ps.all (isRow 2) with
    | false =>
      refine callF_d rfl rfl ?_
      show exSs (calls tb (k - 1)) f38.body [some (.d (sgD s)), some (.d (.tuple ps)), none, none, none, none, none, none] st = _
      rw [ef]
      rw [hr] at x0
      rw [show fitsU s (.tuple ps) = false by simp only [fitsU, hr, Bool.false_and]]
      exact go_ret (by rw [exS_ite_t x0]; simp)
    | true =>
      rw [hr] at x0
      obtain ⟨l1, l2⟩ := for_all (body := forB (calls tb (k - 1)) (.tup [3, 4]) f38_b0) (g := none) (st := st) (pairGood s) (fun env => ∃ b c e, env = [some (.d (sgD s)), some (.d (.tuple ps)), none, b, c, e, none, none]) ps (by
        rintro p hp _ ⟨b, c, e5, rfl⟩
        obtain ⟨x, y, rfl⟩ := isRow2 (List.all_eq_true.mp hr p hp)
        have hdp : (PyData.tuple [x, y]).depth + 1 ≤ n := by
          have := depth_mem hp
          rw [PyData.depth] at hd
          omega
        have hxy : x.depth + 2 ≤ n ∧ y.depth + 2 ≤ n := by
          simp only [PyData.depth, PyData.depthAll] at hdp
          omega
        have hx : calls tb (k - 1) 36 [.d (sgD s), .d x] st = .ok (.d (srt s x)) st := c40 g (n - 2) x (by omega) (by omega) st
        have hy : calls tb (k - 1) 36 [.d (sgD s), .d y] st = .ok (.d (srt s y)) st := c40 g (n - 2) y (by omega) (by omega) st
        have hb : forB (calls tb (k - 1)) (.tup [3, 4]) f38_b0 (.tuple [x, y]) [some (.d (sgD s)), some (.d (.tuple ps)), none, b, c, e5, none, none] st = exSs (calls tb (k - 1)) f38_b0 [some (.d (sgD s)), some (.d (.tuple ps)), none, some (.d x), some (.d y), e5, none, none] st := forB_eq rfl
        rw [hb]
        rcases srt_kind s x with e | ⟨z, e⟩
        · have hv := isVarD_srt e
          rw [e] at hx
          refine ⟨fun h => by simp [pairGood, hv] at h, fun _ => ?_⟩
          simp [f38_b0, hx, isN_d, isNoneD]
        · rw [e] at hx
          rcases srt_cases e with ⟨v, rfl, hv, rfl⟩ | ⟨hv, z', b', c', rfl, hz'⟩
          · have e : pairGood s (.tuple [varD v, y]) = (PyData.eqv (srt s y) (.str v.2) && !PyData.eqv y (varD v)) := by rw [pairGood, hv, thdD_var, Bool.true_and]
            rw [e]
            cases c1 : PyData.eqv (srt s y) (.str v.2) <;> cases c2 : PyData.eqv y (varD v) <;> simp [f38_b0, hx, hy, isN_d, isNoneD, idx_v4, cmp_ne_ss, srt_ne, var_eq, eqv_var_symm, c1, c2]
          · refine ⟨fun h => by simp [pairGood, hv] at h, fun _ => ?_⟩
            have i0 : primF .idx [.d (.tuple [.str z', b', c']), .d (.int 0)] st = .ok (.d (.str z')) st := rfl
            simp [f38_b0, hx, isN_d, isNoneD, i0, cmp_ne_ss, hz']) [some (.d (sgD s)), some (.d (.tuple ps)), none, none, none, none, none, none] ⟨none, none, none, rfl⟩
      have hi : evI (calls tb (k - 1)) (.of (.var 1)) [some (.d (sgD s)), some (.d (.tuple ps)), none, none, none, none, none, none] st = .ok (ps, none) st := evI_tuple (by simp)
      cases hg : ps.all (pairGood s) with
      | false =>
        refine callF_d rfl rfl ?_
        show exSs (calls tb (k - 1)) f38.body [some (.d (sgD s)), some (.d (.tuple ps)), none, none, none, none, none, none] st = _
        rw [ef]
        rw [go_next (env' := [some (.d (sgD s)), some (.d (.tuple ps)), none, none, none, none, none, none]) (st' := st) (by rw [exS_ite_f x0]; simp)]
        rw [show fitsU s (.tuple ps) = false by simp only [fitsU, hg, Bool.false_and, Bool.and_false]]
        exact go_ret (by rw [exS_for, hi, fl_ok]; exact l2 hg)
      | true =>
        obtain ⟨_, ⟨b, c, e5, rfl⟩, e1⟩ := l1 hg
        obtain ⟨vs, hvs⟩ := good_vars hg
        refine callF_x (ex := []) (ex' := [.lst (ps.map fstD)]) (rs' := [.d (sgD s), .d (.tuple ps)]) (env := [some (.d (sgD s)), some (.d (.tuple ps)), none, none, none, none, none, none]) rfl (by simp) rfl rfl ?_
        rw [ef, List.append_nil]
        rw [go_next (env' := [some (.d (sgD s)), some (.d (.tuple ps)), none, none, none, none, none, none]) (st' := st) (by rw [exS_ite_f x0]; simp)]
        rw [go_next (by rw [exS_for, hi, fl_ok]; exact e1)]
        rw [go_next (exS_asg_f (firsts_ev (b := none) hr st))]
        rw [show fitsU s (.tuple ps) = ascD (ps.map fstD) by simp only [fitsU, hg, hr, Bool.true_and]]
        have hlv : vs.length < 2000 := by
          have := congrArg List.length hvs
          simp only [List.length_map] at this
          omega
        rw [hvs]
        exact go_ret (exS_ret' (asc_ev hlv (get_last _ _)))
  · refine callF_d rfl rfl ?_
    show exSs (calls tb (k - 1)) f38.body [some (.d (sgD s)), some (.d d), none, none, none, none, none, none] st = _
    cases d with
    | tuple ps => exact absurd ⟨ps, rfl⟩ ht
    | _ => simp [f38, primF, isaD, fitsU]
end K02

namespace K02
open PySem Ev Hd Pl
/-! ### what is asked of anything: a datum, or a list that may change -/
/-- what is given as a substitution, and whether it is one -/
def Giv (s : Sg) (n : Nat) (r : R) (st : List Ob) (b : Bool) : Prop := (∃ d : D, r = .d d ∧ d.depth ≤ n ∧ (∀ ps, d = .tuple ps → ps.length < 2000) ∧ b = fitsU s d) ∨ (∃ j xs, r = .o j ∧ st[j]? = some (.lst xs) ∧ b = false)
theorem isaT_o {st : List Ob} {j : Nat} {xs : List D} (h : st[j]? = some (.lst xs)) : primF (.isa [.tuple]) [.o j] st = .ok (.d (.bool false)) st := by simp [primF, lockd, h, isaD]
theorem Giv.fits {k n : Nat} {s : Sg} (g : Gs s) {r : R} {st : List Ob} {b : Bool} (h : Giv s n r st b) (hk : n + 5 ≤ k) : calls tb k 13 [.d (sgD s), r] st = .ok (.d (.bool b)) st := by
  rcases h with ⟨d, rfl, h1, _, rfl⟩ | ⟨j, xs, rfl, h1, rfl⟩
  · exact c13 g h1 hk st
  · rw [calls_at (by omega) (fd := f13) rfl]
    refine callF_d rfl rfl ?_
    show exSs (calls tb (k - 1)) f13.body [some (.d (sgD s)), some (.o j), none, none, none] st = _
    simp [f13, isaT_o h1]
theorem Giv.law {k n : Nat} {s : Sg} (g : Gs s) {r : R} {st : List Ob} {b : Bool} (h : Giv s n r st b) (hk : n + 5 ≤ k) : calls tb k 38 [.d (sgD s), r] st = .ok (.d (.bool b)) st := by
  rcases h with ⟨d, rfl, h1, h2, rfl⟩ | ⟨j, xs, rfl, h1, rfl⟩
  · exact c38 g h1 h2 hk st
  · rw [calls_at (by omega) (fd := f38) rfl]
    refine callF_d rfl rfl ?_
    show exSs (calls tb (k - 1)) f38.body [some (.d (sgD s)), some (.o j), none, none, none, none, none, none] st = _
    simp [f38, isaT_o h1]
theorem Giv.app {s : Sg} {n : Nat} {r : R} {st : List Ob} {b : Bool} (h : Giv s n r st b) (L : List Ob) : Giv s n r (st ++ L) b := by
  rcases h with h | ⟨j, xs, h1, h2, h3⟩
  · exact .inl h
  · exact .inr ⟨j, xs, h1, get_app h2 L, h3⟩
theorem Giv.allocs {s : Sg} {n : Nat} {r : R} {st : List Ob} {b : Bool} (h : Giv s n r st b) (rs : List R) (st' : List Ob) : Ev.allocs (r :: rs) st' = (r :: (Ev.allocs rs st').1, (Ev.allocs rs st').2) := by
  rcases h with ⟨d, rfl, _⟩ | ⟨j, xs, rfl, _⟩
  · exact allocs_d d rs st'
  · exact allocs_o j rs st'
theorem Giv.check {k n : Nat} {s : Sg} (g : Gs s) {r : R} {st : List Ob} {b : Bool} (h : Giv s n r st b) (hk : n + 6 ≤ k) : calls tb k 19 [.d (sgD s), r] st = if b then .ok (.d .none) st else .exc 2 st := by
  have h1 := h.fits (k := k - 1) g (by omega)
  rw [calls_at (by omega) (fd := f19) rfl]
  have ha : Ev.allocs [.d (sgD s), r] st = ([.d (sgD s), r], st) := by rw [allocs_d, h.allocs]; rfl
  cases b with
  | true =>
    refine callF_end (env := [some (.d (sgD s)), some r]) (env' := [some (.d (sgD s)), some r]) rfl ha rfl ?_
    simp [f19, h1]
  | false =>
    refine callF_exc (env := [some (.d (sgD s)), some r]) (env' := [some (.d (sgD s)), some r]) rfl ha rfl ?_
    simp [f19, h1]
theorem Giv.is {k n : Nat} {s : Sg} (g : Gs s) {r : R} {st : List Ob} {b : Bool} (h : Giv s n r st b) (hk : n + 6 ≤ k) (hk2 : 73 < k) : calls tb k 20 [.d (sgD s), r] st = .ok (.d (.bool b)) st := by
  have h1 := h.fits (k := k - 1) g (by omega)
  have h2 : calls tb (k - 1) 16 [.d (sgD s)] st = .ok (.d .none) st := c17 (by omega) g st
  rw [calls_at (by omega) (fd := f20) rfl]
  have ha : Ev.allocs [.d (sgD s), r] st = ([.d (sgD s), r], st ++ []) := by rw [allocs_d, h.allocs, List.append_nil]; rfl
  refine callF_x (ex := []) (ex' := []) (env := [some (.d (sgD s)), some r]) rfl ha rfl rfl ?_
  simp [f20, h1, h2]
/-! ### what a substitution does -/
/-- drawn and told substitutions -/
structure Sb (s : Sg) (M : Sub) (m : Nat) : Prop where
  nd : (M.map (·.1)).Nodup
  wt : ∀ p ∈ M, WT s p.2 p.1.2
  sz : ∀ p ∈ M, p.2.size ≤ m
  kn : ∀ p ∈ M, isName (.str p.1.1) = true ∧ p.1.2 ∈ srtS s
  le : M.length ≤ 20
theorem Sb.mo {s : Sg} {M : Sub} {m : Nat} (h : Sb s M m) (hm : m ≤ 60) : Mo M := ⟨h.nd, fun p hp => Nat.le_trans (h.sz p hp) hm⟩
theorem Sb.vs {s : Sg} {M : Sub} {m : Nat} (h : Sb s M m) : VS s M m := ⟨h.wt, h.sz⟩
theorem Sb.told {s : Sg} {M : Sub} {m : Nat} (h : Sb s M m) (hm : m ≤ 60) : Sb s (told M) m := by
  have sub : ∀ p ∈ K02.told M, p ∈ M := fun p hp => (List.mem_filter.mp ((mem_sortP _ _).mp hp)).1
  exact ⟨(told_mo (h.mo hm)).nd, fun p hp => h.wt p (sub p hp), fun p hp => h.sz p (sub p hp), fun p hp => h.kn p (sub p hp), Nat.le_trans (told_len M) h.le⟩
theorem asc_pwV : ∀ {l : Sub}, l.Pairwise (fun a b => ltV a.1 b.1 = true) → ascD (l.map fun p => varD p.1) = true
  | [], _ => rfl
  | [a], _ => rfl
  | a :: b :: l, h => by
    rw [List.pairwise_cons] at h
    have ih := asc_pwV h.2
    have e : ascD ((a :: b :: l).map fun p => varD p.1) = (ltV a.1 b.1 && ascD ((b :: l).map fun p => varD p.1)) := rfl
    rw [e, h.1 b (by simp), ih]
    rfl
theorem fits_told {s : Sg} (g : Gs s) {M : Sub} {m : Nat} (h : Sb s M m) (hm : m ≤ 60) : fitsU s (toldD M) = true := by
  rw [toldD_eq (h.mo hm), fitsU, Bool.and_eq_true, Bool.and_eq_true]
  have ht := h.told hm
  refine ⟨?_, ?_, ?_⟩
  · rw [List.all_map, List.all_eq_true]
    intro p _
    rfl
  · rw [List.all_map, List.all_eq_true]
    intro p hp
    have h1 : isVarD s (varD p.1) = true := isVarD_var (ht.kn p hp).1 ((srtS_allS g _).mp (ht.kn p hp).2 |> (mem_setS _ _).mpr)
    have h2 : srt s (tmD p.2) = .str p.1.2 := wt_srt g (ht.wt p hp)
    have h3 : PyData.eqv (tmD p.2) (varD p.1) = false := by
      have := (tell_iff p).mp (List.mem_filter.mp ((mem_sortP _ _).mp hp)).2
      cases e : PyData.eqv (tmD p.2) (varD p.1) with
      | false => rfl
      | true => exact absurd ((eqT_iff _ _).mp e) this
    show pairGood s (.tuple [varD p.1, tmD p.2]) = true
    rw [pairGood, h1, h2, h3, thdD_var]
    simp
  · rw [List.map_map]
    exact asc_pwV (told_pw (h.mo hm))
theorem told_depth {M : Sub} (h : Mo M) : (toldD M).depth ≤ 123 := by
  rw [toldD_eq h, PyData.depth]
  have := depthAll_le (n := 122) (xs := (told M).map pairD) fun x hx => by
    obtain ⟨p, hp, rfl⟩ := List.mem_map.mp hx
    exact pair_depth ((told_mo h).sz p hp)
  omega
theorem Sb.giv {s : Sg} (g : Gs s) {M : Sub} {m : Nat} (h : Sb s M m) (hm : m ≤ 60) (st : List Ob) : Giv s 123 (.d (toldD M)) st true :=
  .inl ⟨_, rfl, told_depth (h.mo hm), fun ps e => by
    rw [toldD_eq (h.mo hm)] at e
    injection e with e
    subst e
    have := (h.told hm).le
    simp
    omega, (fits_told g h hm).symm⟩
theorem pl_told {s : Sg} {M : Sub} {m : Nat} (h : Sb s M m) (hm : m ≤ 60) : pl (toldD M) = true := by
  rw [toldD_eq (h.mo hm), pl_tuple]
  have := (h.told hm).le
  refine ⟨by simp; omega, fun d hd => ?_⟩
  obtain ⟨p, hp, rfl⟩ := List.mem_map.mp hd
  rw [pairD, pl_tuple]
  refine ⟨by simp, fun d hd => ?_⟩
  simp only [List.mem_cons, List.not_mem_nil, or_false] at hd
  rcases hd with rfl | rfl
  · exact pl_tm _ (by simp [Tm.size])
  · exact pl_tm _ (by have := (h.told hm).sz p hp; omega)
theorem dict_told {s : Sg} {M : Sub} {m : Nat} (h : Sb s M m) (hm : m ≤ 60) (st : List Ob) : primF .dictT [.d (toldD M)] st = .ok (.f (.dit false ((told M).map prD))) st := by
  rw [toldD_eq (h.mo hm)]
  exact dict_t (h.told hm).nd (by have := (h.told hm).le; omega) st
end K02

namespace K02
open PySem Ev Hd Pl
/-! ### applied, composed -/
theorem c21 {k : Nat} {s : Sg} (g : Gs s) {t : Tm} {x : Str} (ht : WT s t x) (hz : t.size ≤ 12) {M : Sub} {m : Nat} (h : Sb s M m) (hm : m ≤ 60) (hk : 135 ≤ k) (st : List Ob) : calls tb k 21 [.d (sgD s), .d (tmD t), .d (toldD M)] st = .ok (.d (tmD (putT M t))) st := by
  have hd := dep_le_size t
  have hd2 := depth_tm t
  have h18 : calls tb (k - 1) 17 [.d (sgD s), .d (tmD t)] st = .ok (.d .none) st := by
    rw [c18 (n := 24) g (by omega) (by omega) (by omega), wt_srt g ht]
    rfl
  have h19 : calls tb (k - 1) 19 [.d (sgD s), .d (toldD M)] st = .ok (.d .none) st := by
    rw [(h.giv g hm st).check g (by omega), if_pos rfl]
  have hp : calls tb (k - 1) 12 [.d (tmD t), .f (.dit false ((told M).map prD))] st = .ok (.d (tmD (putT M t))) st := by
    rw [p13f t (by omega) (by omega), putT_ext (told_put (h.mo hm))]
  rw [calls_at (by omega) (fd := f21) rfl]
  refine callF_d rfl rfl ?_
  show exSs (calls tb (k - 1)) f21.body [some (.d (sgD s)), some (.d (tmD t)), some (.d (toldD M))] st = _
  simp [f21, h18, h19, hp, dict_told h hm]
/-- applied, the term or what is given none -/
theorem c21t {k n : Nat} {s : Sg} (g : Gs s) {d : D} (hd : d.depth ≤ 10) (hs : srt s d = .none) {r : R} {b : Bool} {st : List Ob} (hr : Giv s n r st b) (hk : 135 ≤ k) : calls tb k 21 [.d (sgD s), .d d, r] st = .exc 1 st := by
  have h18 : calls tb (k - 1) 17 [.d (sgD s), .d d] st = .exc 1 st := by
    rw [c18 (n := 10) g (by omega) (by omega) (by omega), hs]
    rfl
  rw [calls_at (by omega) (fd := f21) rfl]
  have ha : Ev.allocs [.d (sgD s), .d d, r] st = ([.d (sgD s), .d d, r], st) := by rw [allocs_d, allocs_d, hr.allocs]; rfl
  refine callF_exc (env := [some (.d (sgD s)), some (.d d), some r]) (env' := [some (.d (sgD s)), some (.d d), some r]) rfl ha rfl ?_
  simp [f21, h18]
theorem c21x {k n : Nat} {s : Sg} (g : Gs s) {t : Tm} {x : Str} (ht : WT s t x) (hz : t.size ≤ 12) {r : R} {st : List Ob} (hr : Giv s n r st false) (hn : n ≤ 125) (hk : 135 ≤ k) : calls tb k 21 [.d (sgD s), .d (tmD t), r] st = .exc 2 st := by
  have hd := dep_le_size t
  have hd2 := depth_tm t
  have h18 : calls tb (k - 1) 17 [.d (sgD s), .d (tmD t)] st = .ok (.d .none) st := by
    rw [c18 (n := 24) g (by omega) (by omega) (by omega), wt_srt g ht]
    rfl
  have h19 : calls tb (k - 1) 19 [.d (sgD s), r] st = .exc 2 st := by
    rw [hr.check g (by omega), if_neg (by simp)]
  rw [calls_at (by omega) (fd := f21) rfl]
  have ha : Ev.allocs [.d (sgD s), .d (tmD t), r] st = ([.d (sgD s), .d (tmD t), r], st) := by rw [allocs_d, allocs_d, hr.allocs]; rfl
  refine callF_exc (env := [some (.d (sgD s)), some (.d (tmD t)), some r]) (env' := [some (.d (sgD s)), some (.d (tmD t)), some r]) rfl ha rfl ?_
  simp [f21, h18, h19]
theorem c22x {k n n' : Nat} {s : Sg} (g : Gs s) {r r' : R} {st : List Ob} {b : Bool} (hr : Giv s n r st b) (hr' : Giv s n' r' st false) (hn : n ≤ 125) (hn' : n' ≤ 125) (hk : 135 ≤ k) : calls tb k 22 [.d (sgD s), r, r'] st = .exc 2 st := by
  have h16 : calls tb (k - 1) 16 [.d (sgD s)] st = .ok (.d .none) st := c17 (by omega) g st
  have h19 : calls tb (k - 1) 19 [.d (sgD s), r] st = if b then .ok (.d .none) st else .exc 2 st := hr.check g (by omega)
  have h19' : calls tb (k - 1) 19 [.d (sgD s), r'] st = .exc 2 st := by
    rw [hr'.check g (by omega), if_neg (by simp)]
  rw [calls_at (by omega) (fd := f22) rfl]
  have ha : Ev.allocs [.d (sgD s), r, r'] st = ([.d (sgD s), r, r'], st) := by rw [allocs_d, hr.allocs, hr'.allocs]; rfl
  refine callF_exc (env := [some (.d (sgD s)), some r, some r']) (env' := [some (.d (sgD s)), some r, some r']) rfl ha rfl ?_
  cases b <;> simp [f22, h16, h19, h19']
theorem c22y {k n : Nat} {s : Sg} (g : Gs s) {r : R} {d : D} {st : List Ob} (hr : Giv s n r st false) (hn : n ≤ 125) (hk : 135 ≤ k) : calls tb k 22 [.d (sgD s), r, .d d] st = .exc 2 st := by
  have h16 : calls tb (k - 1) 16 [.d (sgD s)] st = .ok (.d .none) st := c17 (by omega) g st
  have h19 : calls tb (k - 1) 19 [.d (sgD s), r] st = .exc 2 st := by
    rw [hr.check g (by omega), if_neg (by simp)]
  rw [calls_at (by omega) (fd := f22) rfl]
  have ha : Ev.allocs [.d (sgD s), r, .d d] st = ([.d (sgD s), r, .d d], st) := by rw [allocs_d, hr.allocs]; rfl
  refine callF_exc (env := [some (.d (sgD s)), some r, some (.d d)]) (env' := [some (.d (sgD s)), some r, some (.d d)]) rfl ha rfl ?_
  simp [f22, h16, h19]
/-! ### composed -/
def f15_b0 : Ss := (.cons (.sub (.var 4) (.var 5) (.call 12 (.cons (.prim .idx (.cons (.var 2) (.cons (.var 5) .nil))) (.cons (.var 3) .nil)))) .nil)
def f15_b1 : Ss := (.cons (.ite (.cmp .notin (.var 5) (.var 2)) (.cons (.sub (.var 4) (.var 5) (.prim .idx (.cons (.var 3) (.cons (.var 5) .nil)))) .nil) .nil) .nil)
theorem idx_s {st : List Ob} {j : Nat} {l : Bool} {M : Sub} (hj : st[j]? = some (.dit l (M.map prD))) {v : Vr} {t : Tm} (h : lkS M v = some t) : primF .idx [.o j, .d (varD v)] st = .ok (.d (tmD t)) st := by
  show idxF (.o j) (.d (varD v)) st = _
  have hk := keyT_var v
  have hd := dget_s M v
  rw [h] at hd
  rw [varD_tup] at hk hd ⊢
  exact idx_t hj hk hd
theorem sub_s {st : List Ob} {j : Nat} {M : Sub} (hj : st[j]? = some (.dit false (M.map prD))) (hl : M.length < 1000) (v : Vr) (t : Tm) : subF (.o j) (.d (varD v)) (.d (tmD t)) st = some (st.set j (.dit false ((putS M v t).map prD))) := by
  rw [sub_t hj (keyT_var v) (by simp; omega), dput_s]
end K02

namespace K02
open PySem Ev Hd Pl
theorem exS_lock {Φ : Calls} {env env' : Envr} {st st' : List Ob} {v i : Nat} {kvs : List (D × D)} {s : S} (hv : env[v]? = some (some (.o i))) (hs : st[i]? = some (.dit false kvs)) (h : exS Φ s env (st.set i (.dit true kvs)) = .next env' st') (h' : st'[i]? = some (.dit true kvs)) : exS Φ (.lock v s) env st = .next env' (st'.set i (.dit false kvs)) := by
  rw [exS, lockO, hv]
  simp only [hs, h, unS, h']
theorem nd_none {T : Sub} {p : Vr × Tm} {us : Sub} (h : ((T ++ p :: us).map (·.1)).Nodup) : lkS T p.1 = none := by
  cases c : lkS T p.1 with
  | none => rfl
  | some u =>
    rw [List.map_append, List.nodup_append] at h
    exact absurd rfl (h.2.2 p.1 (List.mem_map.mpr ⟨_, lkS_in c, rfl⟩) p.1 (by simp))
theorem comp_l1 {k : Nat} {A B : Sub} (hk : 1 ≤ k) (hdep : ∀ p ∈ A, p.2.dep ≤ k) (hA : Mo A) (st0 : List Ob) (e0 e1 : Option R) : ∀ (us T : Sub) (v5 : Option R), (∀ p ∈ us, p ∈ A) → ((T ++ us).map (·.1)).Nodup → T.length + us.length ≤ 100 →
    ∃ v5', loopS (forB (calls tb k) (.name 5) f15_b0) (some st0.length) (us.map fun p => varD p.1) [e0, e1, some (.o st0.length), some (.o (st0.length + 1)), some (.o (st0.length + 2)), v5] (st0 ++ [.dit true (A.map prD), .dit false (B.map prD), .dit false (T.map prD)])
      = .next [e0, e1, some (.o st0.length), some (.o (st0.length + 1)), some (.o (st0.length + 2)), v5'] (st0 ++ [.dit true (A.map prD), .dit false (B.map prD), .dit false ((T ++ us.map fun p => (p.1, putT B p.2)).map prD)])
  | [], T, v5, _, _, _ => ⟨v5, by simp⟩
  | p :: us, T, v5, hu, hn, hl => by
    have hp := hu p (by simp)
    have hnone := nd_none hn
    have s0 : (st0 ++ [Ob.dit true (A.map prD), .dit false (B.map prD), .dit false (T.map prD)])[st0.length]? = some (.dit true (A.map prD)) := h1 _ _ _
    have s1 : (st0 ++ [Ob.dit true (A.map prD), .dit false (B.map prD), .dit false (T.map prD)])[st0.length + 1]? = some (.dit false (B.map prD)) := by rw [h5]; rfl
    have s2 : (st0 ++ [Ob.dit true (A.map prD), .dit false (B.map prD), .dit false (T.map prD)])[st0.length + 2]? = some (.dit false (T.map prD)) := by rw [h5]; rfl
    have ix := idx_s s0 (lkS_mem hA hp)
    have cl := p13 p.2 (k := k) (hdep p hp) _ s1
    have sb := sub_s s2 (by simp at hl; omega) p.1 (putT B p.2)
    rw [h6, putS_new hnone] at sb
    obtain ⟨v5', ih⟩ := comp_l1 (B := B) hk hdep hA st0 e0 e1 us (T ++ [(p.1, putT B p.2)]) (some (.d (varD p.1))) (fun q hq => hu q (by simp [hq])) (by
      have : ((T ++ [(p.1, putT B p.2)]) ++ us).map (·.1) = (T ++ p :: us).map (·.1) := by simp
      rw [this]
      exact hn) (by simp at hl ⊢; omega)
    refine ⟨v5', ?_⟩
    rw [List.map_cons, loopS_next (env' := [e0, e1, some (.o st0.length), some (.o (st0.length + 1)), some (.o (st0.length + 2)), some (.d (varD p.1))]) (st' := st0 ++ [.dit true (A.map prD), .dit false (B.map prD), .dit false ((T ++ [(p.1, putT B p.2)]).map prD)]) ?_ ?_, ih]
    · simp
    · rw [forB_eq rfl, f15_b0]
      refine (go_next (exS_sub' (x := .d (tmD (putT B p.2))) (y := .o (st0.length + 2)) (z := .d (varD p.1)) (st1 := st0 ++ [.dit true (A.map prD), .dit false (B.map prD), .dit false (T.map prD)]) ?_ ?_ ?_ sb)).trans ?_
      · simp only [List.set_cons_succ, List.set_cons_zero, evE_call, evEs_cons, evE_prim, evE_var, evEs_nil, List.getElem?_cons_zero, List.getElem?_cons_succ, rs_ok, ix, cl]
      · simp
      · simp
      · rw [exSs_nil]
        rfl
    · intro i hi
      cases hi
      rw [h1, h1]
theorem comp_l2 {k : Nat} {A B : Sub} (hB : Mo B) (st0 : List Ob) (e0 e1 : Option R) : ∀ (us T : Sub) (v5 : Option R), (∀ p ∈ us, p ∈ B) → ((T ++ us.filter fun p => (lkS A p.1).isNone).map (·.1)).Nodup → T.length + us.length ≤ 100 →
    ∃ v5', loopS (forB (calls tb k) (.name 5) f15_b1) (some (st0.length + 1)) (us.map fun p => varD p.1) [e0, e1, some (.o st0.length), some (.o (st0.length + 1)), some (.o (st0.length + 2)), v5] (st0 ++ [.dit false (A.map prD), .dit true (B.map prD), .dit false (T.map prD)])
      = .next [e0, e1, some (.o st0.length), some (.o (st0.length + 1)), some (.o (st0.length + 2)), v5'] (st0 ++ [.dit false (A.map prD), .dit true (B.map prD), .dit false ((T ++ us.filter fun p => (lkS A p.1).isNone).map prD)])
  | [], T, v5, _, _, _ => ⟨v5, by simp⟩
  | p :: us, T, v5, hu, hn, hl => by
    have hp := hu p (by simp)
    have s0 : (st0 ++ [Ob.dit false (A.map prD), .dit true (B.map prD), .dit false (T.map prD)])[st0.length]? = some (.dit false (A.map prD)) := h1 _ _ _
    have s1 : (st0 ++ [Ob.dit false (A.map prD), .dit true (B.map prD), .dit false (T.map prD)])[st0.length + 1]? = some (.dit true (B.map prD)) := by rw [h5]; rfl
    have s2 : (st0 ++ [Ob.dit false (A.map prD), .dit true (B.map prD), .dit false (T.map prD)])[st0.length + 2]? = some (.dit false (T.map prD)) := by rw [h5]; rfl
    have ni := notin_sub s0 p.1
    have ix := idx_s s1 (lkS_mem hB hp)
    rw [List.filter_cons] at hn ⊢
    cases e : lkS A p.1 with
    | some u =>
      rw [e] at hn ni
      simp only [Option.isNone_some, Bool.false_eq_true, if_false] at hn ⊢
      obtain ⟨v5', ih⟩ := comp_l2 (k := k) (A := A) hB st0 e0 e1 us T (some (.d (varD p.1))) (fun q hq => hu q (by simp [hq])) hn (by simp at hl; omega)
      refine ⟨v5', ?_⟩
      rw [List.map_cons, loopS_next (env' := [e0, e1, some (.o st0.length), some (.o (st0.length + 1)), some (.o (st0.length + 2)), some (.d (varD p.1))]) (st' := st0 ++ [.dit false (A.map prD), .dit true (B.map prD), .dit false (T.map prD)]) ?_ ?_, ih]
      · rw [forB_eq rfl, f15_b1]
        refine (go_next (exS_ite_f (st' := st0 ++ [.dit false (A.map prD), .dit true (B.map prD), .dit false (T.map prD)]) ?_)).trans ?_
        · simp only [List.set_cons_succ, List.set_cons_zero, evE_cmpE, evE_var, List.getElem?_cons_zero, List.getElem?_cons_succ, rs_ok, ni]
          rfl
        · rw [exSs_nil]
          rfl
      · exact same_rfl _ _
    | none =>
      rw [e] at hn ni
      simp only [Option.isNone_none, if_true] at hn ⊢
      have hnone := nd_none hn
      have sb := sub_s s2 (by simp at hl; omega) p.1 p.2
      rw [h6, putS_new hnone] at sb
      obtain ⟨v5', ih⟩ := comp_l2 (k := k) (A := A) hB st0 e0 e1 us (T ++ [p]) (some (.d (varD p.1))) (fun q hq => hu q (by simp [hq])) (by simpa using hn) (by simp at hl ⊢; omega)
      refine ⟨v5', ?_⟩
      rw [List.map_cons, loopS_next (env' := [e0, e1, some (.o st0.length), some (.o (st0.length + 1)), some (.o (st0.length + 2)), some (.d (varD p.1))]) (st' := st0 ++ [.dit false (A.map prD), .dit true (B.map prD), .dit false ((T ++ [p]).map prD)]) ?_ ?_, ih]
      · simp
      · rw [forB_eq rfl, f15_b1]
        refine (go_next (env' := [e0, e1, some (.o st0.length), some (.o (st0.length + 1)), some (.o (st0.length + 2)), some (.d (varD p.1))]) (st' := st0 ++ [.dit false (A.map prD), .dit true (B.map prD), .dit false ((T ++ [p]).map prD)]) ?_).trans (exSs_nil _ _ _)
        rw [exS_ite_t (st' := st0 ++ [.dit false (A.map prD), .dit true (B.map prD), .dit false (T.map prD)])]
        · refine (go_next (exS_sub' (x := .d (tmD p.2)) (y := .o (st0.length + 2)) (z := .d (varD p.1)) (st1 := st0 ++ [.dit false (A.map prD), .dit true (B.map prD), .dit false (T.map prD)]) ?_ ?_ ?_ sb)).trans ?_
          · simp only [List.set_cons_succ, List.set_cons_zero, evEs_cons, evE_prim, evE_var, evEs_nil, List.getElem?_cons_zero, List.getElem?_cons_succ, rs_ok, ix]
          · simp
          · simp
          · rw [exSs_nil]
            rfl
        · simp only [List.set_cons_succ, List.set_cons_zero, evE_cmpE, evE_var, List.getElem?_cons_zero, List.getElem?_cons_succ, rs_ok, ni]
          rfl
      · intro i hi
        cases hi
        rw [h5, h5]
        rfl
end K02

namespace K02
open PySem Ev Hd Pl
def cmp2 (M N : Sub) : Sub := comp (told M) (told N)
theorem Sb.comp {s : Sg} {M N : Sub} (hM : Sb s M 6) (hN : Sb s N 6) (hl : M.length + N.length ≤ 20) : Sb s (cmp2 M N) 36 := by
  have a := hM.told (by omega)
  have b := hN.told (by omega)
  have l1 := told_len M
  have l2 := told_len N
  have cs : ∀ p ∈ cmp2 M N, (∃ q ∈ K02.told M, p = (q.1, putT (K02.told N) q.2)) ∨ p ∈ K02.told N := fun p hp => by
    rcases List.mem_append.mp hp with h | h
    · obtain ⟨q, hq, rfl⟩ := List.mem_map.mp h
      exact .inl ⟨q, hq, rfl⟩
    · exact .inr (List.mem_filter.mp h).1
  refine ⟨comp_nd a.nd b.nd, fun p hp => ?_, fun p hp => ?_, fun p hp => ?_, ?_⟩
  · rcases cs p hp with ⟨q, hq, rfl⟩ | h
    · exact put_wt b.vs (a.wt q hq)
    · exact b.wt p h
  · rcases cs p hp with ⟨q, hq, rfl⟩ | h
    · have h1 := put_size b.vs (by omega) q.2
      have h2 := a.sz q hq
      show (putT (K02.told N) q.2).size ≤ 36
      omega
    · have := b.sz p h
      omega
  · rcases cs p hp with ⟨q, hq, rfl⟩ | h
    · exact a.kn q hq
    · exact b.kn p h
  · have := List.length_filter_le (fun p : Vr × Tm => (lkS (K02.told M) p.1).isNone) (K02.told N)
    rw [cmp2, K02.comp, List.length_append, List.length_map]
    omega
theorem cmp2_put {s : Sg} {M N : Sub} (hM : Sb s M 6) (hN : Sb s N 6) (v : Vr) : putV (cmp2 M N) v = putT N (putV M v) := by
  rw [cmp2, comp_put, told_put (hM.mo (by omega)), putT_ext (told_put (hN.mo (by omega)))]
theorem c15 {k : Nat} {s : Sg} {M N : Sub} (hM : Sb s M 6) (hN : Sb s N 6) (hl : M.length + N.length ≤ 20) (hk : 20 ≤ k) (st : List Ob) : calls tb k 15 [.d (toldD M), .d (toldD N)] st = .ok (.d (toldD (cmp2 M N))) st := by
  have a := hM.told (by omega)
  have b := hN.told (by omega)
  have l1 := told_len M
  have l2 := told_len N
  obtain ⟨A, hA⟩ : ∃ A, A = told M := ⟨_, rfl⟩
  obtain ⟨B, hB⟩ : ∃ B, B = told N := ⟨_, rfl⟩
  have d1 := dict_told hM (by omega) st
  have d2 := dict_told hN (by omega) st
  rw [cmp2]
  rw [← hA] at a l1 d1 ⊢
  rw [← hB] at b l2 d2 ⊢
  rw [calls_at (by omega) (fd := f15) rfl]
  refine callF_x (ex := []) (ex' := [.dit false (A.map prD), .dit false (B.map prD), .dit false ((comp A B).map prD)]) (rs' := [.d (toldD M), .d (toldD N)]) (env := [some (.d (toldD M)), some (.d (toldD N)), none, none, none, none]) rfl (by simp) rfl rfl ?_
  have ef : f15.body = .cons (.par [2, 3] (.cons (.prim .dictT (.cons (.var 0) .nil)) (.cons (.prim .dictT (.cons (.var 1) .nil)) .nil))) (.cons (.asg 4 .dnewT) (.cons (.lock 2 (.for (.name 5) (.dkeys 2) f15_b0)) (.cons (.lock 3 (.for (.name 5) (.dkeys 3) f15_b1)) (.cons (.ret (.call 14 (.cons (.var 4) .nil))) .nil)))) := rfl
  rw [ef, List.append_nil]
  have x0 : exS (calls tb (k - 1)) (.par [2, 3] (.cons (.prim .dictT (.cons (.var 0) .nil)) (.cons (.prim .dictT (.cons (.var 1) .nil)) .nil))) [some (.d (toldD M)), some (.d (toldD N)), none, none, none, none] st = .next [some (.d (toldD M)), some (.d (toldD N)), some (.o st.length), some (.o (st.length + 1)), none, none] (st ++ [.dit false (A.map prD), .dit false (B.map prD)]) := by
    simp [d1, d2, parSet]
  rw [go_next x0]
  have x1 : exS (calls tb (k - 1)) (.asg 4 .dnewT) [some (.d (toldD M)), some (.d (toldD N)), some (.o st.length), some (.o (st.length + 1)), none, none] (st ++ [.dit false (A.map prD), .dit false (B.map prD)]) = .next [some (.d (toldD M)), some (.d (toldD N)), some (.o st.length), some (.o (st.length + 1)), some (.o (st.length + 2)), none] (st ++ [.dit false (A.map prD), .dit false (B.map prD), .dit false []]) := by
    rw [exS_asg_f (st' := st ++ [.dit false (A.map prD), .dit false (B.map prD)]) (b := .dit false []) (by simp)]
    simp
  rw [go_next x1]
  obtain ⟨w5, e1⟩ := comp_l1 (k := k - 1) (B := B) (by omega) (fun p hp => by have := dep_le_size p.2; have := a.sz p hp; omega) (a.mo (by omega)) st (some (.d (toldD M))) (some (.d (toldD N))) A [] none (fun p hp => hp) (by simpa using a.nd) (by simp; have := hM.le; omega)
  rw [List.nil_append] at e1
  have x2 : exS (calls tb (k - 1)) (.lock 2 (.for (.name 5) (.dkeys 2) f15_b0)) [some (.d (toldD M)), some (.d (toldD N)), some (.o st.length), some (.o (st.length + 1)), some (.o (st.length + 2)), none] (st ++ [.dit false (A.map prD), .dit false (B.map prD), .dit false []]) = .next [some (.d (toldD M)), some (.d (toldD N)), some (.o st.length), some (.o (st.length + 1)), some (.o (st.length + 2)), w5] ((st ++ [Ob.dit true (A.map prD), .dit false (B.map prD), .dit false ((A.map fun p => (p.1, putT B p.2)).map prD)]).set st.length (.dit false (A.map prD))) := by
    refine exS_lock (i := st.length) (kvs := A.map prD) rfl (h1 _ _ _) ?_ (h1 _ _ _)
    rw [h2, exS_for, evI_dkeys (i := st.length) (kvs := A.map prD) rfl (h1 _ _ _), fl_ok, List.map_map]
    exact e1
  rw [h2] at x2
  rw [go_next x2]
  obtain ⟨z5, e2⟩ := comp_l2 (k := k - 1) (A := A) (b.mo (by omega)) st (some (.d (toldD M))) (some (.d (toldD N))) B (A.map fun (p : Vr × Tm) => (p.1, putT B p.2) : Sub) w5 (fun p hp => hp) (comp_nd a.nd b.nd) (by simp; have := hM.le; omega)
  have x3 : exS (calls tb (k - 1)) (.lock 3 (.for (.name 5) (.dkeys 3) f15_b1)) [some (.d (toldD M)), some (.d (toldD N)), some (.o st.length), some (.o (st.length + 1)), some (.o (st.length + 2)), w5] (st ++ [.dit false (A.map prD), .dit false (B.map prD), .dit false ((A.map fun p => (p.1, putT B p.2)).map prD)]) = .next [some (.d (toldD M)), some (.d (toldD N)), some (.o st.length), some (.o (st.length + 1)), some (.o (st.length + 2)), z5] ((st ++ [Ob.dit false (A.map prD), .dit true (B.map prD), .dit false ((comp A B).map prD)]).set (st.length + 1) (.dit false (B.map prD))) := by
    refine exS_lock (i := st.length + 1) (kvs := B.map prD) rfl (by rw [h5]; rfl) ?_ (by rw [h5]; rfl)
    rw [h6, exS_for, evI_dkeys (i := st.length + 1) (kvs := B.map prD) rfl (by rw [h5]; rfl), fl_ok, List.map_map]
    exact e2
  rw [h6] at x3
  rw [go_next x3]
  have hc : Mo (comp A B) := by
    have := (Sb.comp hM hN hl).mo (by omega)
    rw [cmp2, ← hA, ← hB] at this
    exact this
  refine go_ret (exS_ret' ?_)
  refine (call1 (vE rfl)).trans ?_
  exact c16v (by omega) hc _ (by rw [h5]; rfl)
theorem c22 {k : Nat} {s : Sg} (g : Gs s) {M N : Sub} (hM : Sb s M 6) (hN : Sb s N 6) (hl : M.length + N.length ≤ 20) (hk : 135 ≤ k) (st : List Ob) : calls tb k 22 [.d (sgD s), .d (toldD M), .d (toldD N)] st = .ok (.d (toldD (cmp2 M N))) st := by
  have h16 : calls tb (k - 1) 16 [.d (sgD s)] st = .ok (.d .none) st := c17 (by omega) g st
  have h19 : calls tb (k - 1) 19 [.d (sgD s), .d (toldD M)] st = .ok (.d .none) st := by
    rw [(hM.giv g (by omega) st).check g (by omega), if_pos rfl]
  have h19' : calls tb (k - 1) 19 [.d (sgD s), .d (toldD N)] st = .ok (.d .none) st := by
    rw [(hN.giv g (by omega) st).check g (by omega), if_pos rfl]
  have h15 := c15 hM hN hl (k := k - 1) (by omega) st
  rw [calls_at (by omega) (fd := f22) rfl]
  refine callF_d rfl rfl ?_
  show exSs (calls tb (k - 1)) f22.body [some (.d (sgD s)), some (.d (toldD M)), some (.d (toldD N))] st = _
  simp [f22, h16, h19, h19', h15]
/-! ### none -/
theorem sb_nil (s : Sg) : Sb s [] 6 := ⟨List.nodup_nil, fun p hp => by simp at hp, fun p hp => by simp at hp, fun p hp => by simp at hp, by simp⟩
theorem toldD_nil : toldD [] = .tuple [] := rfl
theorem putT_nil (t : Tm) : putT [] t = t := by
  induction t using Tm.ind with
  | hv x s => rw [putT, lkS_nil]; rfl
  | ha f ts ih =>
    rw [putT, putTs_map]
    congr 1
    exact (List.map_congr_left ih).trans (List.map_id ts)
theorem cmp2_l {s : Sg} {M : Sub} (hM : Sb s M 6) : toldD (cmp2 M []) = toldD M := by
  refine toldD_ext ((Sb.comp hM (sb_nil s) (by have := hM.le; simpa using this)).mo (by omega)) (hM.mo (by omega)) fun v => ?_
  rw [cmp2_put hM (sb_nil s), putT_nil]
theorem cmp2_r {s : Sg} {M : Sub} (hM : Sb s M 6) : toldD (cmp2 [] M) = toldD M := by
  refine toldD_ext ((Sb.comp (sb_nil s) hM (by have := hM.le; simpa using this)).mo (by omega)) (hM.mo (by omega)) fun v => ?_
  rw [cmp2_put (sb_nil s) hM]
  exact putT_v M v
end K02

namespace K02
open PySem Ev Hd Pl
/-! ### the words of the errors -/
def f39_b0 : Ss := match f39.body with
  | .cons _ (.cons (.for _ _ b) _) => b
  | _ => .nil
def wordS : Option Nat → Str
  | none => "none"
  | some 0 => "signature"
  | some 1 => "term"
  | _ => "told"
def OutS (o : Option Nat) (r : Rs R) (st : List Ob) : Prop := match o with
  | none => ∃ v, r = .ok v st
  | some c => c < 3 ∧ r = .exc c st
theorem c39_step {Φ : Calls} {a b c d : R} {st : List Ob} {o : Option Nat} (q : Nat) (hq : q < 3) (h : OutS o (match q with
    | 0 => Φ 20 [a, c] st
    | 1 => Φ 21 [a, b, c] st
    | _ => Φ 22 [a, c, d] st) st) {j : Nat} {ws : List D} (hj : st[j]? = some (.lst ws)) (hl : ws.length < 1000) (v5 v6 : Option R) :
    forB Φ (.name 5) f39_b0 (.int q) [some a, some b, some c, some d, some (.o j), v5, v6] st = .next [some a, some b, some c, some d, some (.o j), some (.d (.int q)), some (.d (.str (wordS o)))] (st.set j (.lst (ws ++ [.str (wordS o)]))) := by
  rw [forB_eq rfl]
  have m1 := methOk_o (p := .append) hj (by simp)
  have a1 : ∀ w, appF (.o j) (.d (.str w)) st = .ok (.d .none) (st.set j (.lst (ws ++ [.str w]))) := fun w => app_o (r := .d (.str w)) hj rfl (by omega)
  have pa : ∀ w, primF .append [.o j, .d (.str w)] st = .ok (.d .none) (st.set j (.lst (ws ++ [.str w]))) := a1
  obtain rfl | rfl | rfl : q = 0 ∨ q = 1 ∨ q = 2 := by omega
  all_goals
    cases o with
    | none =>
      obtain ⟨v, hv⟩ := h
      simp only [] at hv
      simp [f39_b0, f39, exS, cmp_eq_ii, hv, wordS, m1, pa]
    | some e =>
      obtain ⟨he, hv⟩ := h
      simp only [] at hv
      obtain rfl | rfl | rfl : e = 0 ∨ e = 1 ∨ e = 2 := by omega
      all_goals simp [f39_b0, f39, exS, exHs, cmp_eq_ii, hv, wordS, m1, pa]
theorem words_ev {k : Nat} (hk : 0 < k) {a b c d : R} (ha : ∀ st, allocs [a, b, c, d] st = ([a, b, c, d], st)) {o0 o1 o2 : Option Nat} (st : List Ob)
    (h0 : ∀ L, OutS o0 (calls tb (k - 1) 20 [a, c] (st ++ L)) (st ++ L)) (h1 : ∀ L, OutS o1 (calls tb (k - 1) 21 [a, b, c] (st ++ L)) (st ++ L)) (h2 : ∀ L, OutS o2 (calls tb (k - 1) 22 [a, c, d] (st ++ L)) (st ++ L)) :
    calls tb k 39 [a, b, c, d] st = .ok (.f (.lst ([wordS o0, wordS o1, wordS o2].map .str))) st := by
  rw [calls_at hk (fd := f39) rfl]
  refine callF_o (ex := []) (ex' := [.lst ([wordS o0, wordS o1, wordS o2].map .str)]) (j := 0) (rs' := [a, b, c, d]) (env := [some a, some b, some c, some d, none, none, none]) rfl (by simp [ha]) rfl rfl (Nat.zero_le _) rfl ?_
  have s0 := c39_step (Φ := calls tb (k - 1)) (a := a) (b := b) (c := c) (d := d) (st := st ++ [.lst []]) 0 (by omega) (h0 [.lst []]) (j := st.length) (ws := []) (by simp) (by simp) none none
  have s1 := c39_step (Φ := calls tb (k - 1)) (a := a) (b := b) (c := c) (d := d) (st := st ++ [.lst [.str (wordS o0)]]) 1 (by omega) (h1 [.lst [.str (wordS o0)]]) (j := st.length) (ws := [.str (wordS o0)]) (by simp) (by simp) (some (.d (.int 0))) (some (.d (.str (wordS o0))))
  have s2 := c39_step (Φ := calls tb (k - 1)) (a := a) (b := b) (c := c) (d := d) (st := st ++ [.lst [.str (wordS o0), .str (wordS o1)]]) 2 (by omega) (h2 [.lst [.str (wordS o0), .str (wordS o1)]]) (j := st.length) (ws := [.str (wordS o0), .str (wordS o1)]) (by simp) (by simp) (some (.d (.int 1))) (some (.d (.str (wordS o1))))
  simp only [set_last] at s0 s1 s2
  have hi : evI (calls tb (k - 1)) (.range1 (.dat (.int 3))) [some a, some b, some c, some d, some (.o st.length), none, none] (st ++ [.lst []]) = .ok ([.int 0, .int 1, .int 2], none) (st ++ [.lst []]) := evI_range (n := 3) (by simp) (by omega)
  have lp : loopS (forB (calls tb (k - 1)) (.name 5) f39_b0) none [.int 0, .int 1, .int 2] [some a, some b, some c, some d, some (.o st.length), none, none] (st ++ [.lst []]) = .next [some a, some b, some c, some d, some (.o st.length), some (.d (.int 2)), some (.d (.str (wordS o2)))] (st ++ [.lst [.str (wordS o0), .str (wordS o1), .str (wordS o2)]]) := by
    rw [loopS_next (by simpa using s0) (same_none _ _), loopS_next (by simpa using s1) (same_none _ _), loopS_next (by simpa using s2) (same_none _ _), loopS_nil]
  have ef : f39.body = .cons (.asg 4 (.lst .nil)) (.cons (.for (.name 5) (.range1 (.dat (.int 3))) f39_b0) (.cons (.ret (.var 4)) .nil)) := rfl
  rw [ef]
  simp [toDs, hi, lp]
/-! ### a signature that is none -/
def bad2 : D := .tuple [.tuple [.str "a", .tuple [], .str "a"], .int 5]
theorem c9z {k : Nat} (hk : 1 < k) (i : Int) (st : List Ob) : calls tb k 8 [.d (.int i)] st = .ok (.d (.bool false)) st := by
  rw [calls_at (by omega) (fd := f8) rfl]
  refine callF_d rfl rfl ?_
  have h1 : ∀ st, calls tb (k - 1) 0 [.d (.int i), .d (.int 3)] st = .ok (.d (.bool false)) st := fun st => c1 (k := k - 1) (by omega) (.int i) 3 st
  show exSs (calls tb (k - 1)) f8.body [some (.d (.int i)), none] st = _
  simp [f8, h1]
theorem c10z {k : Nat} (hk : 2 < k) (st : List Ob) : calls tb k 9 [.d bad2] st = .ok (.d (.bool false)) st := by
  rw [calls_at (by omega) (fd := f9) rfl]
  refine callF_d rfl rfl ?_
  have h9 : ∀ st, calls tb (k - 1) 8 [.d (.tuple [.str "a", .tuple [], .str "a"])] st = .ok (.d (.bool true)) st := fun st => (c9 (k := k - 1) (by omega) (("a", [], "a") : Row) st).trans (by rw [show rowOk (("a", [], "a") : Row) = true by decide +kernel])
  have w : ∀ st, evE (calls tb (k - 1)) (.prim .all (.cons (.comp (.call 8 (.cons (.var 1) .nil)) (.name 1) (.of (.var 0)) .no [1]) .nil)) [some (.d bad2), none, none, none] st = .ok (.d (.bool false)) st := fun st => by
    rw [allcomp (l := [PyData.tuple [.str "a", .tuple [], .str "a"], .int 5]) (F := id) (g := none) (p := fun d => isRow 3 d) (by rw [List.map_id]; exact evI_tuple (by simp [bad2])) fun d hd => ⟨_, rfl, ?_⟩]
    · rfl
    · simp only [List.mem_cons, List.not_mem_nil, or_false] at hd
      rcases hd with rfl | rfl
      · simp [wipeE, h9, isRow]
      · simp [wipeE, c9z (k := k - 1) (by omega), isRow]
  have pt : ∀ st, primF (.isa [.tuple]) [.d bad2] st = .ok (.d (.bool true)) st := fun st => rfl
  show exSs (calls tb (k - 1)) f9.body [some (.d bad2), none, none, none] st = _
  generalize bad2 = z at *
  simp [f9, w, pt]
theorem c16z {k : Nat} (hk : 3 < k) (st : List Ob) : calls tb k 16 [.d bad2] st = .exc 0 st := by
  rw [calls_at (by omega) (fd := f16) rfl]
  refine callF_exc (env := [some (.d bad2)]) (env' := [some (.d bad2)]) rfl rfl rfl ?_
  have h : ∀ st, calls tb (k - 1) 9 [.d bad2] st = .ok (.d (.bool false)) st := fun st => c10z (by omega) st
  generalize bad2 = z at *
  simp [f16, h]
theorem bad_words {k : Nat} (hk : 20 < k) (st : List Ob) : calls tb k 39 [.d bad2, .d .none, .d .none, .d .none] st = .ok (.f (.lst [.str "signature", .str "signature", .str "signature"])) st := by
  have h := words_ev (k := k) (by omega) (a := .d bad2) (b := .d .none) (c := .d .none) (d := .d .none) (fun st => rfl) (o0 := some 0) (o1 := some 0) (o2 := some 0) st (fun L => ⟨by omega, ?_⟩) (fun L => ⟨by omega, ?_⟩) (fun L => ⟨by omega, ?_⟩)
  · exact h
  · have h : ∀ st, calls tb (k - 1 - 1) 16 [.d bad2] st = .exc 0 st := fun st => c16z (by omega) st
    rw [calls_at (by omega) (fd := f20) rfl]
    refine callF_exc (env := [some (.d bad2), some (.d .none)]) (env' := [some (.d bad2), some (.d .none)]) rfl rfl rfl ?_
    generalize bad2 = z at *
    simp [f20, h]
  · have h : ∀ st, calls tb (k - 1 - 1 - 1) 16 [.d bad2] st = .exc 0 st := fun st => c16z (by omega) st
    have h2 : ∀ st, calls tb (k - 1 - 1) 17 [.d bad2, .d .none] st = .exc 0 st := fun st => by
      rw [calls_at (by omega) (fd := f17) rfl]
      refine callF_exc (env := [some (.d bad2), some (.d .none)]) (env' := [some (.d bad2), some (.d .none)]) rfl rfl rfl ?_
      generalize bad2 = z at *
      simp [f17, h]
    rw [calls_at (by omega) (fd := f21) rfl]
    refine callF_exc (env := [some (.d bad2), some (.d .none), some (.d .none)]) (env' := [some (.d bad2), some (.d .none), some (.d .none)]) rfl rfl rfl ?_
    generalize bad2 = z at *
    simp [f21, h2]
  · have h : ∀ st, calls tb (k - 1 - 1) 16 [.d bad2] st = .exc 0 st := fun st => c16z (by omega) st
    rw [calls_at (by omega) (fd := f22) rfl]
    refine callF_exc (env := [some (.d bad2), some (.d .none), some (.d .none)]) (env' := [some (.d bad2), some (.d .none), some (.d .none)]) rfl rfl rfl ?_
    generalize bad2 = z at *
    simp [f22, h]
end K02

namespace K02
open PySem Ev Hd Pl
/-! ### some of a row that stands in the store -/
theorem some_loopO {k : Nat} (hk : 0 < k) {n i m : Nat} (q : Int) (st : List Ob) (hi : i < st.length) (xs : List D) (hx : xs.length < 1000000) : ∀ (ts left found : List D) (b : Ob) (v5 : Option R), ts.length ≤ left.length → left.length + found.length = xs.length → (∀ y ∈ left, y ∈ xs) → (∀ y ∈ found, y ∈ xs) → Dk (n + ts.length) b →
    ∃ left' found' b' v5', loopS (forB (calls tb k) (.name 5) (.cons (.expr (.meth .append (.var 4) (.meth .pop (.var 3) (.call 24 (.cons (.var 0) (.cons (.prim .len (.cons (.var 3) .nil)) .nil)))))) .nil)) none ts [some (.o i), some (.o m), some (.d (.int q)), some (.o st.length), some (.o (st.length + 1)), v5] (st.set i b ++ [.lst left, .lst found])
      = .next [some (.o i), some (.o m), some (.d (.int q)), some (.o st.length), some (.o (st.length + 1)), v5'] (st.set i b' ++ [.lst left', .lst found']) ∧ found'.length = found.length + ts.length ∧ (∀ y ∈ found', y ∈ xs) ∧ Dk n b'
  | [], left, found, b, v5, _, _, _, h4, h5 => ⟨left, found, b, v5, by simp, by simp, h4, h5⟩
  | t :: ts, left, found, b, v5, h1, h2, h3, h4, h5 => by
    rw [List.length_cons] at h1
    obtain ⟨v, b1, hv, hb1, e1⟩ := d26 (k := k) hk (n := n + ts.length) (many := (left.length : Int)) (by omega) (by omega) st hi [.lst left, .lst found] (by simpa [Nat.add_assoc] using h5)
    have hv' : v < left.length := by omega
    have e2 := pop_o (st := st.set i b1 ++ [.lst left, .lst found]) (j := st.length + 0) (m := v) (d := left[v]) (by rw [g3]; rfl) (by simp [hv'])
    have e3 := app_o (st := st.set i b1 ++ [.lst (left.eraseIdx v), .lst found]) (j := st.length + 1) (r := .d left[v]) (d := left[v]) (by rw [g3]; rfl) rfl (by omega)
    have m1 := methOk_o (p := .pop) (st := st.set i b ++ [.lst left, .lst found]) (j := st.length + 0) (by rw [g3]; rfl) (by simp)
    have m2 := methOk_o (p := .append) (st := st.set i b ++ [.lst left, .lst found]) (j := st.length + 1) (by rw [g3]; rfl) (by simp)
    have hl : lenOf (st.set i b ++ [.lst left, .lst found]) (.o (st.length + 0)) = some left.length := by simp only [lenOf, seqOf, lstOf, g3]; rfl
    rw [g4] at e2 e3
    obtain ⟨left', found', b', v5', a1, a2, a3, a4⟩ := some_loopO (m := m) hk q st hi xs hx ts (left.eraseIdx v) (found ++ [left[v]]) b1 (some (.d t)) (by rw [List.length_eraseIdx_of_lt hv']; omega) (by rw [List.length_eraseIdx_of_lt hv']; simp; omega) (fun y hy => h3 y (List.mem_of_mem_eraseIdx hy)) (by
      intro y hy
      rcases List.mem_append.mp hy with hy | hy
      · exact h4 y hy
      · rw [List.mem_singleton.mp hy]
        exact h3 _ (List.getElem_mem hv')) hb1
    refine ⟨left', found', b', v5', ?_, by simp at a2 ⊢; omega, a3, a4⟩
    rw [loopS_next ?_ (same_none _ _), a1]
    rw [forB_eq rfl]
    simp at e2 e3 hl m1
    simp [m1, m2, primF, hl, e1, e2, e3]
theorem c28o {k : Nat} (hk : 1 < k) {n q i m : Nat} {b : Ob} {xs : List D} (hx : xs.length < 1000000) (hq : q < 1000000) (st : List Ob) (hs : st[i]? = some b) (hm : st[m]? = some (.lst xs)) (hb : Dk (n + q) b) :
    ∃ (ys : List D) (b' : Ob), (∀ y ∈ ys, y ∈ xs) ∧ ys.length ≤ q ∧ Dk n b' ∧ calls tb k 26 [.o i, .o m, .d (.int q)] st = .ok (.f (.lst ys)) (st.set i b') := by
  have hi := lt_of_get hs
  obtain ⟨left', found', b', v5', a1, a2, a3, a4⟩ := some_loopO (k := k - 1) (m := m) (by omega) (n := n) (q : Int) st hi xs hx ((List.range (min xs.length q)).map fun (k : Nat) => (PyData.int (k : Int))) xs [] b none (by simp; omega) (by simp) (by simp) (by simp) (hb.mono (by simp; omega))
  refine ⟨found', b', a3, by simp at a2; omega, a4, ?_⟩
  rw [set_self hs] at a1
  rw [calls_at (by omega) (fd := f26) rfl]
  refine callF_o (ex := []) (ex' := [.lst left', .lst found']) (j := 1) (rs' := [.o i, .o m, .d (.int q)]) (env := [some (.o i), some (.o m), some (.d (.int q)), none, none, none]) rfl (by simp) rfl (by simp) (by simp) rfl ?_
  have hi' : evI (calls tb (k - 1)) (.range1 (.prim .min2 (.cons (.prim .len (.cons (.var 3) .nil)) (.cons (.var 2) .nil)))) [some (.o i), some (.o m), some (.d (.int q)), some (.o st.length), some (.o (st.length + 1)), none] (st ++ [.lst xs, .lst []]) = .ok ((List.range (min xs.length q)).map fun (k : Nat) => (PyData.int (k : Int)), none) (st ++ [.lst xs, .lst []]) := by
    refine evI_range ?_ (by omega)
    have h0 : (st ++ [Ob.lst xs, .lst []])[st.length]? = some (.lst xs) := by rw [List.getElem?_append_right (by omega)]; simp
    have hl : lenOf (st ++ [.lst xs, .lst []]) (.o st.length) = some xs.length := by simp [lenOf, seqOf, lstOf]
    simp [primF, hl, intF]
    omega
  have h0 : seqOf st (.o m) = some xs := seqOf_o hm
  simp [f26, primF, h0, toDs, parSet, hi', a1]
/-! ### a drawn substitution -/
def f40_b0 : Ss := (.cons (.sub (.var 3) (.var 4) (.call 32 (.cons (.var 0) (.cons (.var 1) (.cons (.prim .idx (.cons (.var 4) (.cons (.dat (.int 2)) .nil))) (.cons (.lst (.cons (.prim .add (.cons (.dat (.int 1)) (.cons (.call 24 (.cons (.var 0) (.cons (.dat (.int 6)) .nil))) .nil))) .nil)) (.cons (.var 2) .nil))))))) .nil)
structure Dr (s : Sg) (vs : List Vr) (T : Sub) : Prop where
  nd : (T.map (·.1)).Nodup
  wt : ∀ p ∈ T, WT s p.2 p.1.2
  sz : ∀ p ∈ T, p.2.size ≤ 6
  kv : ∀ p ∈ T, p.1 ∈ vs
theorem putS_nd {M : Sub} (h : (M.map (·.1)).Nodup) (v : Vr) (t : Tm) : ((putS M v t).map (·.1)).Nodup := by
  rw [putS]
  split
  · rw [List.map_map]
    have e : ((fun x => x.1) ∘ fun p : Vr × Tm => if p.1 = v then (p.1, t) else p) = (·.1) := by
      funext p
      show (if p.1 = v then (p.1, t) else p).1 = p.1
      split <;> rfl
    rw [e]
    exact h
  · rename_i hn
    rw [List.map_append, List.nodup_append]
    refine ⟨h, by simp, fun a ha b hb e => ?_⟩
    subst e
    simp at hb
    subst hb
    obtain ⟨p, hp, e⟩ := List.mem_map.mp ha
    cases c : lkS M a with
    | none => exact lkS_none c p hp e
    | some u => rw [c] at hn; exact hn rfl
theorem Dr.put {s : Sg} {vs : List Vr} {T : Sub} (h : Dr s vs T) {v : Vr} {t : Tm} (hv : v ∈ vs) (w : WT s t v.2) (z : t.size ≤ 6) : Dr s vs (putS T v t) where
  nd := putS_nd h.nd v t
  wt := fun p hp => by
    rcases putS_mem hp with hp | rfl
    · exact h.wt p hp
    · exact w
  sz := fun p hp => by
    rcases putS_mem hp with hp | rfl
    · exact h.sz p hp
    · exact z
  kv := fun p hp => by
    rcases putS_mem hp with hp | rfl
    · exact h.kv p hp
    · exact hv
theorem Dr.sb {s : Sg} {vs : List Vr} {T : Sub} (h : Dr s vs T) (hv : Kn s vs) (hl : T.length ≤ 20) : Sb s T 6 := ⟨h.nd, h.wt, h.sz, fun p hp => hv p.1 (h.kv p hp), hl⟩
theorem drawn_loop {k : Nat} (hk : 20 ≤ k) {s : Sg} (g : Gs s) {vs : List Vr} (hv : Kn s vs) (hvl : vs.length ≤ 1000) {n i m : Nat} (st : List Ob) (hi : i < st.length) (hm : st[m]? = some (.lst (vs.map varD))) (him : i ≠ m) : ∀ (us : List Vr) (T : Sub) (b : Ob) (v4 : Option R), (∀ v ∈ us, v ∈ vs) → Dr s vs T → T.length + us.length ≤ 10 → Dk (n + 100 * us.length) b →
    ∃ T' b' v4', Dr s vs T' ∧ T'.length ≤ T.length + us.length ∧ Dk n b' ∧ loopS (forB (calls tb k) (.name 4) f40_b0) none (us.map varD) [some (.o i), some (.d (sgD s)), some (.o m), some (.o st.length), v4] (st.set i b ++ [.dit false (T.map prD)])
      = .next [some (.o i), some (.d (sgD s)), some (.o m), some (.o st.length), v4'] (st.set i b' ++ [.dit false (T'.map prD)])
  | [], T, b, v4, _, h, _, hb => ⟨T, b, v4, h, by simp, by simpa using hb, by simp⟩
  | v :: us, T, b, v4, hu, h, hl, hb => by
    have hvv := hu v (by simp)
    have hvs := (srtS_allS g v.2).mp (hv v hvv).2
    obtain ⟨r', b4, hr, d4, a4⟩ := d26 (k := k) (by omega) (n := n + 100 * us.length + 99) (many := 6) (by omega) (by omega) st hi [.dit false (T.map prD)] (hb.mono (by simp; omega))
    have hmm := lt_of_get hm
    obtain ⟨t, b5, ht, hz, d5, a5⟩ := c34f g hv hvl (r := r' + 1) (by omega) (by omega) (k := k) (by omega) (n := n + 100 * us.length) (i := i) (m := m) (x := v.2) hvs (st.set i b4 ++ [.dit false (T.map prD)]) (g1 hi _ _) (by rw [g5 hmm him, hm]) him (d4.mono (by omega))
    rw [g2 hi] at a5
    have hT : (st.set i b5 ++ [Ob.dit false (T.map prD)])[st.length + 0]? = some (.dit false (T.map prD)) := by rw [g3]; rfl
    have sb := sub_s hT (by simp at hl; omega) v t
    rw [g4] at sb
    obtain ⟨T', b', v4', k1, k2, k3, k4⟩ := drawn_loop hk g hv hvl st hi hm him us (putS T v t) b5 (some (.d (varD v))) (fun w hw => hu w (by simp [hw])) (h.put hvv ht (by omega)) (by have := putS_len T v t; simp at hl; omega) d5
    refine ⟨T', b', v4', k1, by have := putS_len T v t; simp; omega, k3, ?_⟩
    have padd : ∀ st, primF .add [.d (.int 1), .d (.int r')] st = .ok (.d (.int ((r' + 1 : Nat) : Int))) st := fun st => by
      have : (1 : Int) + r' = ((r' + 1 : Nat) : Int) := by omega
      simp [primF, addF, this]
    rw [List.map_cons, loopS_next (env' := [some (.o i), some (.d (sgD s)), some (.o m), some (.o st.length), some (.d (varD v))]) (st' := st.set i b5 ++ [.dit false ((putS T v t).map prD)]) ?_ (same_none _ _), k4]
    rw [forB_eq rfl, f40_b0]
    refine (go_next (exS_sub' (x := .d (tmD t)) (y := .o (st.length + 0)) (z := .d (varD v)) (st1 := st.set i b5 ++ [.dit false (T.map prD)]) ?_ ?_ ?_ sb)).trans ?_
    · simp only [List.set_cons_succ, List.set_cons_zero, evE_call, evEs_cons, evE_prim, evE_lst, evE_dat, evE_var, evEs_nil, List.getElem?_cons_zero, List.getElem?_cons_succ, rs_ok, idx_v3, a4, padd, toDs, toD_d, a5]
    · simp
    · simp
    · rw [exSs_nil]
      rfl
theorem d40 {k : Nat} (hk : 21 ≤ k) {s : Sg} (g : Gs s) {vs : List Vr} (hv : Kn s vs) (hvl : vs.length ≤ 1000) {n i m : Nat} {b : Ob} (st : List Ob) (hi : st[i]? = some b) (hm : st[m]? = some (.lst (vs.map varD))) (him : i ≠ m) (hb : Dk (n + 1000) b) :
    ∃ T b', Dr s vs T ∧ T.length ≤ 5 ∧ Dk n b' ∧ calls tb k 40 [.o i, .d (sgD s), .o m] st = .ok (.f (.dit false (T.map prD))) (st.set i b') := by
  have hi' := lt_of_get hi
  have hst : st = st.set i b := (set_self hi).symm
  have hmm := lt_of_get hm
  obtain ⟨q', b1, hq, d1, a1⟩ := d26 (k := k - 1) (by omega) (n := n + 999) (many := 6) (by omega) (by omega) st hi' [.dit false []] (hb.mono (by omega))
  obtain ⟨ys, b2, hy, hyl, d2, a2⟩ := c28o (k := k - 1) (by omega) (q := q') (i := i) (m := m) (n := n + 900) (xs := vs.map varD) (by simp; omega) (by omega) (st.set i b1 ++ [.dit false []]) (g1 hi' _ _) (by rw [g5 hmm him, hm]) (d1.mono (by omega))
  rw [g2 hi'] at a2
  obtain ⟨us, rfl⟩ : ∃ us : List Vr, ys = us.map varD := by
    have : ∀ l : List D, (∀ y ∈ l, y ∈ vs.map varD) → ∃ us : List Vr, l = us.map varD := by
      intro l
      induction l with
      | nil => exact fun _ => ⟨[], rfl⟩
      | cons y l ih =>
        intro h
        obtain ⟨us, rfl⟩ := ih fun z hz => h z (by simp [hz])
        obtain ⟨v, _, rfl⟩ := List.mem_map.mp (h y (by simp))
        exact ⟨v :: us, rfl⟩
    exact this ys hy
  have hus : ∀ v ∈ us, v ∈ vs := fun v h => by
    obtain ⟨w, hw, e⟩ := List.mem_map.mp (hy (varD v) (List.mem_map.mpr ⟨v, h, rfl⟩))
    have : PyData.eqv (varD w) (varD v) = true := by rw [e, eqv_var]; simp
    rw [eqv_var] at this
    exact of_decide_eq_true this ▸ hw
  rw [List.length_map] at hyl
  obtain ⟨T, b', w4, k1, k2, k3, k4⟩ := drawn_loop (k := k - 1) (by omega) g hv hvl (n := n) st hi' hm him us [] b2 none hus ⟨List.nodup_nil, fun p hp => by simp at hp, fun p hp => by simp at hp, fun p hp => by simp at hp⟩ (by simp; omega) (d2.mono (by omega))
  refine ⟨T, b', k1, by simp at k2; omega, k3, ?_⟩
  rw [calls_at (by omega) (fd := f40) rfl]
  refine callF_o (ex := []) (ex' := [.dit false (T.map prD)]) (j := 0) (rs' := [.o i, .d (sgD s), .o m]) (env := [some (.o i), some (.d (sgD s)), some (.o m), none, none]) rfl (by simp) rfl (by simp) (Nat.le_refl _) rfl ?_
  have ef : f40.body = .cons (.asg 3 .dnewT) (.cons (.for (.name 4) (.of (.call 26 (.cons (.var 0) (.cons (.var 2) (.cons (.call 24 (.cons (.var 0) (.cons (.dat (.int 6)) .nil))) .nil))))) f40_b0) (.cons (.ret (.var 3)) .nil)) := rfl
  rw [ef, List.append_nil]
  have x0 : exS (calls tb (k - 1)) (.asg 3 .dnewT) [some (.o i), some (.d (sgD s)), some (.o m), none, none] st = .next [some (.o i), some (.d (sgD s)), some (.o m), some (.o st.length), none] (st ++ [.dit false []]) := by
    rw [exS_asg_f (st' := st) (b := .dit false []) (by simp)]
    simp
  rw [go_next x0]
  rw [← hst] at a1
  have hsrc : evI (calls tb (k - 1)) (.of (.call 26 (.cons (.var 0) (.cons (.var 2) (.cons (.call 24 (.cons (.var 0) (.cons (.dat (.int 6)) .nil))) .nil))))) [some (.o i), some (.d (sgD s)), some (.o m), some (.o st.length), none] (st ++ [.dit false []]) = .ok (us.map varD, none) (st.set i b2 ++ [.dit false []]) := by
    refine evI_new' ?_
    simp only [evE_call, evEs_cons, evE_dat, evE_var, evEs_nil, List.getElem?_cons_zero, List.getElem?_cons_succ, rs_ok, a1, a2]
  rw [go_next (by rw [exS_for, hsrc, fl_ok]; exact k4)]
  refine go_ret (exS_ret' (vE rfl))
end K02

namespace K02
open PySem Ev Hd Pl

theorem not_f {Φ : Calls} {A : E} {env : Envr} {st st' : List Ob} (h : evE Φ A env st = .ok (.d (.bool true)) st') : evE Φ (.notE A) env st = .ok (.d (.bool false)) st' := by
  rw [evE_not, h]
  rfl
theorem or_ff {Φ : Calls} {A B : E} {env : Envr} {st st1 st2 : List Ob} (h : evE Φ A env st = .ok (.d (.bool false)) st1) (h2 : evE Φ B env st1 = .ok (.d (.bool false)) st2) : evE Φ (.orE A B) env st = .ok (.d (.bool false)) st2 := by
  rw [evE_or, h]
  exact h2
theorem skip {Φ : Calls} {c : E} {a : Ss} {env : Envr} {st st' : List Ob} (h : evE Φ c env st = .ok (.d (.bool false)) st') : exS Φ (.ite c a .nil) env st = .next env st' := (exS_ite_f h).trans (exSs_nil _ _ _)
theorem call4 {Φ : Calls} {env : Envr} {st st1 st2 st3 st4 : List Ob} {a b c d : E} {x y z w : R} {f : Nat} (h1 : evE Φ a env st = .ok x st1) (h2 : evE Φ b env st1 = .ok y st2) (h3 : evE Φ c env st2 = .ok z st3) (h4 : evE Φ d env st3 = .ok w st4) : evE Φ (.call f (.cons a (.cons b (.cons c (.cons d .nil))))) env st = Φ f [x, y, z, w] st4 := by
  rw [evE_call, evEs_cons, h1, rs_ok, evEs_cons, h2, rs_ok, evEs_cons, h3, rs_ok, evEs_cons, h4, rs_ok, evEs_nil]
  rfl
theorem lst2 {Φ : Calls} {env : Envr} {st st1 st2 : List Ob} {a b : E} {x y : D} (h1 : evE Φ a env st = .ok (.d x) st1) (h2 : evE Φ b env st1 = .ok (.d y) st2) : evE Φ (.lst (.cons a (.cons b .nil))) env st = .ok (.f (.lst [x, y])) st2 := by
  rw [evE_lst, evEs_cons, h1, rs_ok, evEs_cons, h2, rs_ok, evEs_nil]
  rfl
theorem lst3 {Φ : Calls} {env : Envr} {st : List Ob} (x y z : D) : evE Φ (.lst (.cons (.dat x) (.cons (.dat y) (.cons (.dat z) .nil)))) env st = .ok (.f (.lst [x, y, z])) st := by
  simp only [evE_lst, evEs_cons, evE_dat, evEs_nil, rs_ok, toDs, toD_d]
theorem cmpE {Φ : Calls} {env : Envr} {st st1 st2 : List Ob} {o : Cmp} {a b : E} {x y : R} (h1 : evE Φ a env st = .ok x st1) (h2 : evE Φ b env st1 = .ok y st2) : evE Φ (.cmp o a b) env st = cmpF o x y st2 := by
  rw [evE_cmpE, h1, rs_ok, h2, rs_ok]
theorem tup0 {Φ : Calls} {env : Envr} {st : List Ob} : evE Φ (.tup .nil) env st = .ok (.d (toldD [])) st := by
  simp only [evE_tup, evEs_nil, rs_ok, toDs]
  rfl
theorem put_depM {M : Sub} {m : Nat} (h : ∀ p ∈ M, p.2.size ≤ m) (t : Tm) : (putT M t).dep ≤ t.dep + m := by
  induction t using Tm.ind with
  | hv x s =>
    rw [putT_v M (x, s), putV]
    cases e : lkS M (x, s) with
    | none => simp [Tm.dep]
    | some u =>
      have h1 := h _ (lkS_in e)
      have h2 := dep_le_size u
      simp only [Option.getD_some]
      simp only at h1
      omega
  | ha f ts ih =>
    rw [putT, putTs_map, Tm.dep, Tm.dep]
    have : deps (ts.map (putT M)) ≤ deps ts + m := deps_le fun u hu => by
      obtain ⟨t, ht, rfl⟩ := List.mem_map.mp hu
      have h1 := ih t ht
      have h2 := dep_mem ht
      omega
    omega
theorem put_cmp2 {s : Sg} {M N : Sub} (hM : Sb s M 6) (hN : Sb s N 6) (t : Tm) : putT (cmp2 M N) t = putT N (putT M t) := by
  induction t using Tm.ind with
  | hv x y => rw [putT_v (cmp2 M N) (x, y), putT_v M (x, y), cmp2_put hM hN]
  | ha f ts ih =>
    rw [putT, putT, putT, putTs_map, putTs_map, putTs_map, List.map_map]
    exact congrArg _ (List.map_congr_left ih)
theorem told_depth6 {s : Sg} {M : Sub} (h : Sb s M 6) : (toldD M).depth ≤ 14 := by
  rw [toldD_eq (h.mo (by omega)), PyData.depth]
  have := depthAll_le (n := 13) (xs := (told M).map pairD) fun x hx => by
    obtain ⟨p, hp, rfl⟩ := List.mem_map.mp hx
    have h1 := depth_tm p.2
    have h3 := dep_le_size p.2
    have h2 := varD_depth p.1
    have h4 := (h.told (by omega)).sz p hp
    rw [pairD]
    simp only [PyData.depth, PyData.depthAll, h2]
    omega
  omega
theorem same_tm {t : Tm} (hz : t.size ≤ 1000) (hd : t.dep ≤ 60) {k : Nat} (hk : 130 ≤ k) (st : List Ob) : calls tb k 27 [.d (tmD t), .d (tmD t)] st = .ok (.d (.bool true)) st :=
  c29 120 (tmD t) (by have := depth_tm t; omega) (pl_tm t hz) (by omega) (by omega) st
theorem same_told {s : Sg} {M : Sub} {m : Nat} (h : Sb s M m) (hm : m ≤ 60) {k : Nat} (hk : 130 ≤ k) (st : List Ob) : calls tb k 27 [.d (toldD M), .d (toldD M)] st = .ok (.d (.bool true)) st :=
  c29 123 _ (told_depth (h.mo hm)) (pl_told h hm) (by omega) (by omega) st
theorem words_ne {Φ : Calls} {env : Envr} {st st' : List Ob} {a : E} {x y z : Str} (h : evE Φ a env st = .ok (.f (.lst [.str x, .str y, .str z])) st') : evE Φ (.cmp .ne a (.lst (.cons (.dat (.str x)) (.cons (.dat (.str y)) (.cons (.dat (.str z)) .nil))))) env st = .ok (.d (.bool false)) st' := (cmpE h (lst3 _ _ _)).trans (ne_words [x, y, z] st')

def f41_b1 : Ss := (.cons (.asg 11 (.call 32 (.cons (.var 3) (.cons (.var 4) (.cons (.call 25 (.cons (.var 3) (.cons (.call 30 (.cons (.var 4) .nil)) .nil))) (.cons (.lst (.cons (.prim .add (.cons (.dat (.int 1)) (.cons (.call 24 (.cons (.var 3) (.cons (.dat (.int 12)) .nil))) .nil))) .nil)) (.cons (.var 5) .nil))))))) (.cons (.asg 12 (.call 33 (.cons (.var 11) (.cons (.var 6) .nil)))) (.cons (.ite (.orE (.notE (.call 27 (.cons (.call 21 (.cons (.var 4) (.cons (.var 11) (.cons (.var 8) .nil)))) (.cons (.var 12) .nil)))) (.notE (.call 27 (.cons (.call 21 (.cons (.var 4) (.cons (.var 11) (.cons (.call 22 (.cons (.var 4) (.cons (.var 8) (.cons (.var 9) .nil)))) .nil)))) (.cons (.call 33 (.cons (.var 12) (.cons (.var 7) .nil))) .nil))))) (.cons (.ret (.dat (.bool false))) .nil) .nil) (.cons (.ite (.notE (.call 27 (.cons (.call 21 (.cons (.var 4) (.cons (.var 11) (.cons (.tup .nil) .nil)))) (.cons (.var 11) .nil)))) (.cons (.ret (.dat (.bool false))) .nil) .nil) (.cons (.asg 13 (.call 37 (.cons (.var 3) (.cons (.var 8) (.cons (.var 1) .nil))))) (.cons (.asg 14 (.call 38 (.cons (.var 4) (.cons (.var 13) .nil)))) (.cons (.ite (.notE (.call 27 (.cons (.call 20 (.cons (.var 4) (.cons (.var 13) .nil))) (.cons (.var 14) .nil)))) (.cons (.ret (.dat (.bool false))) .nil) .nil) (.cons (.ite (.andE (.notE (.var 14)) (.cmp .ne (.call 39 (.cons (.var 4) (.cons (.var 11) (.cons (.var 13) (.cons (.dat .none) .nil))))) (.lst (.cons (.dat (.str "none")) (.cons (.dat (.str "told")) (.cons (.dat (.str "told")) .nil)))))) (.cons (.ret (.dat (.bool false))) .nil) .nil) (.cons (.ite (.andE (.notE (.var 14)) (.cmp .ne (.call 39 (.cons (.var 4) (.cons (.var 11) (.cons (.var 8) (.cons (.var 13) .nil))))) (.lst (.cons (.dat (.str "none")) (.cons (.dat (.str "none")) (.cons (.dat (.str "told")) .nil)))))) (.cons (.ret (.dat (.bool false))) .nil) .nil) .nil)))))))))
def f41_b2 : Ss := (.cons (.sub (.var 15) (.var 16) (.call 33 (.cons (.call 33 (.cons (.var 16) (.cons (.var 6) .nil))) (.cons (.var 7) .nil)))) .nil)
def f41_b0 : Ss := (.cons (.asg 3 (.call 23 (.cons (.var 2) .nil))) (.cons (.asg 4 (.call 29 (.cons (.var 3) (.cons (.dat (.int 2)) (.cons (.dat (.int 4)) .nil))))) (.cons (.asg 5 (.call 31 (.cons (.var 3) (.cons (.var 4) (.cons (.dat (.int 6)) .nil))))) (.cons (.par [6, 7] (.cons (.call 40 (.cons (.var 3) (.cons (.var 4) (.cons (.var 5) .nil)))) (.cons (.call 40 (.cons (.var 3) (.cons (.var 4) (.cons (.var 5) .nil)))) .nil))) (.cons (.par [8, 9] (.cons (.call 34 (.cons (.var 6) .nil)) (.cons (.call 34 (.cons (.var 7) .nil)) .nil))) (.cons (.ite (.notE (.call 27 (.cons (.lst (.cons (.call 20 (.cons (.var 4) (.cons (.var 8) .nil))) (.cons (.call 20 (.cons (.var 4) (.cons (.tup .nil) .nil))) .nil))) (.cons (.lst (.cons (.dat (.bool true)) (.cons (.dat (.bool true)) .nil))) .nil)))) (.cons (.ret (.dat (.bool false))) .nil) .nil) (.cons (.for (.name 10) (.range1 (.dat (.int 4))) f41_b1) (.cons (.asg 15 .dnewT) (.cons (.for (.name 16) (.of (.var 5)) f41_b2) (.cons (.ite (.orE (.notE (.call 27 (.cons (.call 22 (.cons (.var 4) (.cons (.var 8) (.cons (.var 9) .nil)))) (.cons (.call 34 (.cons (.var 15) .nil)) .nil)))) (.notE (.call 27 (.cons (.lst (.cons (.call 22 (.cons (.var 4) (.cons (.var 8) (.cons (.tup .nil) .nil)))) (.cons (.call 22 (.cons (.var 4) (.cons (.tup .nil) (.cons (.var 9) .nil)))) .nil))) (.cons (.lst (.cons (.var 8) (.cons (.var 9) .nil))) .nil))))) (.cons (.ret (.dat (.bool false))) .nil) .nil) (.cons (.ite (.orE (.cmp .ne (.call 39 (.cons (.var 4) (.cons (.dat .none) (.cons (.var 8) (.cons (.var 9) .nil))))) (.lst (.cons (.dat (.str "none")) (.cons (.dat (.str "term")) (.cons (.dat (.str "none")) .nil))))) (.cmp .ne (.call 39 (.cons (.tup (.cons (.tup (.cons (.dat (.str "a")) (.cons (.tup .nil) (.cons (.dat (.str "a")) .nil)))) (.cons (.dat (.int 5)) .nil))) (.cons (.dat .none) (.cons (.dat .none) (.cons (.dat .none) .nil))))) (.prim .mul (.cons (.lst (.cons (.dat (.str "signature")) .nil)) (.cons (.dat (.int 3)) .nil))))) (.cons (.ret (.dat (.bool false))) .nil) .nil) .nil)))))))))))
theorem turn_step {k : Nat} (hk : 140 ≤ k) {s : Sg} (g : Gs s) (hs0 : s ≠ []) {vs : List Vr} (hv : Kn s vs) (hvl : vs.length ≤ 1000) {M1 M2 : Sub} (D1 : Sb s M1 6) (D2 : Sb s M2 6) (hl : M1.length + M2.length ≤ 20) {st0 : List Ob} {odd : List D} (ho : Odd odd) (hod : st0[0]? = some (.lst odd)) {n : Nat} {b : Ob} (hb : Dk (n + 300) b) (L : List Ob) (q : Int) (e0 e2 v10 v11 v12 v13 v14 v15 v16 : Option R) :
    ∃ w11 w12 w13 w14 b' L', Dk n b' ∧ forB (calls tb k) (.name 10) f41_b1 (.int q) [e0, some (.o 0), e2, some (.o st0.length), some (.d (sgD s)), some (.o (st0.length + 1)), some (.o (st0.length + 2)), some (.o (st0.length + 3)), some (.d (toldD M1)), some (.d (toldD M2)), v10, v11, v12, v13, v14, v15, v16] (st0 ++ b :: .lst (vs.map varD) :: .dit false (M1.map prD) :: .dit false (M2.map prD) :: L) = .next [e0, some (.o 0), e2, some (.o st0.length), some (.d (sgD s)), some (.o (st0.length + 1)), some (.o (st0.length + 2)), some (.o (st0.length + 3)), some (.d (toldD M1)), some (.d (toldD M2)), some (.d (.int q)), w11, w12, w13, w14, v15, v16] (st0 ++ b' :: .lst (vs.map varD) :: .dit false (M1.map prD) :: .dit false (M2.map prD) :: L') := by
  have hne : srtS s ≠ [] := by
    obtain ⟨r, s', rfl⟩ := List.exists_cons_of_ne_nil hs0
    intro e
    have : r.2.2 ∈ srtS (r :: s') := (mem_srtS _).mpr ⟨r, by simp, rfl⟩
    rw [e] at this
    simp at this
  have hsl := srtS_len g.toSm
  have h00 : st0.length ≠ 0 := by have := lt_of_get hod; omega
  have k30 : ∀ st, calls tb k 30 [.d (sgD s)] st = .ok (.f (.lst ((srtS s).map .str))) st := fun st => c32 (by omega) g.toSm st
  obtain ⟨y, b3, hy, d3, a3⟩ := c27f (k := k) (by omega) (n := n + 299) (i := st0.length) (xs := (srtS s).map .str) (by simpa using hne) (by simpa using hsl) (st0 ++ b :: .lst (vs.map varD) :: .dit false (M1.map prD) :: .dit false (M2.map prD) :: L) (h1 _ _ _) (hb.mono (by omega))
  rw [h2] at a3
  obtain ⟨x, hx, rfl⟩ := List.mem_map.mp hy
  have hxa := (srtS_allS g x).mp hx
  clear hy
  obtain ⟨r', b4, hr0, hr, d4, a4⟩ := c26 (k := k) (by omega) (n := n + 298) (i := st0.length) (many := 12) (by omega) (by omega) (st0 ++ b3 :: .lst (vs.map varD) :: .dit false (M1.map prD) :: .dit false (M2.map prD) :: L) (h1 _ _ _) d3
  rw [h2] at a4
  obtain ⟨r, rfl⟩ : ∃ r : Nat, r' = r := ⟨r'.toNat, by omega⟩
  obtain ⟨t, b5, ht, hz, d5, a5⟩ := c34f g hv hvl (r := r + 1) (by omega) (by omega) (k := k) (by omega) (n := n + 200) (i := st0.length) (m := st0.length + 1) (x := x) hxa (st0 ++ b4 :: .lst (vs.map varD) :: .dit false (M1.map prD) :: .dit false (M2.map prD) :: L) (h1 _ _ _) (h4 _ _ _ _) (by omega) (d4.mono (by omega))
  rw [h2] at a5
  have hz : t.size ≤ 12 := by omega
  have hdt := dep_le_size t
  have padd : ∀ st, primF .add [.d (.int 1), .d (.int r)] st = .ok (.d (.int ((r + 1 : Nat) : Int))) st := fun st => by
    have : (1 : Int) + r = ((r + 1 : Nat) : Int) := by omega
    simp [primF, addF, this]
  have x0 : exS (calls tb k) (.asg 11 (.call 32 (.cons (.var 3) (.cons (.var 4) (.cons (.call 25 (.cons (.var 3) (.cons (.call 30 (.cons (.var 4) .nil)) .nil))) (.cons (.lst (.cons (.prim .add (.cons (.dat (.int 1)) (.cons (.call 24 (.cons (.var 3) (.cons (.dat (.int 12)) .nil))) .nil))) .nil)) (.cons (.var 5) .nil))))))) [e0, some (.o 0), e2, some (.o st0.length), some (.d (sgD s)), some (.o (st0.length + 1)), some (.o (st0.length + 2)), some (.o (st0.length + 3)), some (.d (toldD M1)), some (.d (toldD M2)), some (.d (.int q)), v11, v12, v13, v14, v15, v16] (st0 ++ b :: .lst (vs.map varD) :: .dit false (M1.map prD) :: .dit false (M2.map prD) :: L) = .next [e0, some (.o 0), e2, some (.o st0.length), some (.d (sgD s)), some (.o (st0.length + 1)), some (.o (st0.length + 2)), some (.o (st0.length + 3)), some (.d (toldD M1)), some (.d (toldD M2)), some (.d (.int q)), some (.d (tmD t)), v12, v13, v14, v15, v16] (st0 ++ b5 :: .lst (vs.map varD) :: .dit false (M1.map prD) :: .dit false (M2.map prD) :: L) :=
    exS_asg_d (by simp only [evE_call, evEs_cons, evE_var, evE_lst, evE_prim, evE_dat, evEs_nil, rs_ok, List.getElem?_cons_zero, List.getElem?_cons_succ, k30, a3, a4, padd, toDs, toD_d, a5])
  have k33 := p41 t (k := k) (by omega) (j := st0.length + 2) (l := false) (M := M1) (st0 ++ b5 :: .lst (vs.map varD) :: .dit false (M1.map prD) :: .dit false (M2.map prD) :: L) (by rw [h5]; rfl)
  have hdm := put_depM (M := M1) (m := 6) D1.sz t
  have k33b := p41 (putT M1 t) (k := k) (by omega) (j := st0.length + 3) (l := false) (M := M2) (st0 ++ b5 :: .lst (vs.map varD) :: .dit false (M1.map prD) :: .dit false (M2.map prD) :: L) (by rw [h5]; rfl)
  have x1 : exS (calls tb k) (.asg 12 (.call 33 (.cons (.var 11) (.cons (.var 6) .nil)))) [e0, some (.o 0), e2, some (.o st0.length), some (.d (sgD s)), some (.o (st0.length + 1)), some (.o (st0.length + 2)), some (.o (st0.length + 3)), some (.d (toldD M1)), some (.d (toldD M2)), some (.d (.int q)), some (.d (tmD t)), v12, v13, v14, v15, v16] (st0 ++ b5 :: .lst (vs.map varD) :: .dit false (M1.map prD) :: .dit false (M2.map prD) :: L) = .next [e0, some (.o 0), e2, some (.o st0.length), some (.d (sgD s)), some (.o (st0.length + 1)), some (.o (st0.length + 2)), some (.o (st0.length + 3)), some (.d (toldD M1)), some (.d (toldD M2)), some (.d (.int q)), some (.d (tmD t)), some (.d (tmD (putT M1 t))), v13, v14, v15, v16] (st0 ++ b5 :: .lst (vs.map varD) :: .dit false (M1.map prD) :: .dit false (M2.map prD) :: L) :=
    exS_asg_d ((call2 (vE rfl) (vE rfl)).trans k33)
  have z1 := put_size D1.vs (by omega) t
  have z2 := put_size D2.vs (by omega) (putT M1 t)
  have hdm2 := put_depM (M := M2) (m := 6) D2.sz (putT M1 t)
  have x2 : exS (calls tb k) (.ite (.orE (.notE (.call 27 (.cons (.call 21 (.cons (.var 4) (.cons (.var 11) (.cons (.var 8) .nil)))) (.cons (.var 12) .nil)))) (.notE (.call 27 (.cons (.call 21 (.cons (.var 4) (.cons (.var 11) (.cons (.call 22 (.cons (.var 4) (.cons (.var 8) (.cons (.var 9) .nil)))) .nil)))) (.cons (.call 33 (.cons (.var 12) (.cons (.var 7) .nil))) .nil))))) (.cons (.ret (.dat (.bool false))) .nil) .nil) [e0, some (.o 0), e2, some (.o st0.length), some (.d (sgD s)), some (.o (st0.length + 1)), some (.o (st0.length + 2)), some (.o (st0.length + 3)), some (.d (toldD M1)), some (.d (toldD M2)), some (.d (.int q)), some (.d (tmD t)), some (.d (tmD (putT M1 t))), v13, v14, v15, v16] (st0 ++ b5 :: .lst (vs.map varD) :: .dit false (M1.map prD) :: .dit false (M2.map prD) :: L) = .next [e0, some (.o 0), e2, some (.o st0.length), some (.d (sgD s)), some (.o (st0.length + 1)), some (.o (st0.length + 2)), some (.o (st0.length + 3)), some (.d (toldD M1)), some (.d (toldD M2)), some (.d (.int q)), some (.d (tmD t)), some (.d (tmD (putT M1 t))), v13, v14, v15, v16] (st0 ++ b5 :: .lst (vs.map varD) :: .dit false (M1.map prD) :: .dit false (M2.map prD) :: L) := by
    refine skip (or_ff (not_f ((call2 ((call3 (vE rfl) (vE rfl) (vE rfl)).trans (c21 g ht hz D1 (by omega) (by omega) _)) (vE rfl)).trans (same_tm (by omega) (by omega) (by omega) _))) (not_f ?_))
    refine (call2 ((call3 (vE rfl) (vE rfl) ((call3 (vE rfl) (vE rfl) (vE rfl)).trans (c22 g D1 D2 hl (by omega) _))).trans ((c21 g ht hz (Sb.comp D1 D2 hl) (by omega) (by omega) _).trans (by rw [put_cmp2 D1 D2]))) ((call2 (vE rfl) (vE rfl)).trans k33b)).trans (same_tm (by omega) (by omega) (by omega) _)
  have x3 : exS (calls tb k) (.ite (.notE (.call 27 (.cons (.call 21 (.cons (.var 4) (.cons (.var 11) (.cons (.tup .nil) .nil)))) (.cons (.var 11) .nil)))) (.cons (.ret (.dat (.bool false))) .nil) .nil) [e0, some (.o 0), e2, some (.o st0.length), some (.d (sgD s)), some (.o (st0.length + 1)), some (.o (st0.length + 2)), some (.o (st0.length + 3)), some (.d (toldD M1)), some (.d (toldD M2)), some (.d (.int q)), some (.d (tmD t)), some (.d (tmD (putT M1 t))), v13, v14, v15, v16] (st0 ++ b5 :: .lst (vs.map varD) :: .dit false (M1.map prD) :: .dit false (M2.map prD) :: L) = .next [e0, some (.o 0), e2, some (.o st0.length), some (.d (sgD s)), some (.o (st0.length + 1)), some (.o (st0.length + 2)), some (.o (st0.length + 3)), some (.d (toldD M1)), some (.d (toldD M2)), some (.d (.int q)), some (.d (tmD t)), some (.d (tmD (putT M1 t))), v13, v14, v15, v16] (st0 ++ b5 :: .lst (vs.map varD) :: .dit false (M1.map prD) :: .dit false (M2.map prD) :: L) :=
    skip (not_f ((call2 ((call3 (vE rfl) (vE rfl) tup0).trans ((c21 g ht hz (sb_nil s) (by omega) (by omega) _).trans (by rw [putT_nil]))) (vE rfl)).trans (same_tm (by omega) (by omega) (by omega) _)))
  obtain ⟨rb0, eb, b6, hbn, ⟨heb, hel⟩, d6, a6⟩ := c41 ho 14 (toldD M1) (told_depth6 D1) (pl_told D1 (by omega)) (k := k) (by omega) (n := n) (i := st0.length) (j := 0) (b := b5) (st0 ++ b5 :: .lst (vs.map varD) :: .dit false (M1.map prD) :: .dit false (M2.map prD) :: L) (h1 _ _ _) (get_app hod _) h00 (d5.mono (by omega))
  rw [h2] at a6
  obtain ⟨rb, L', bb, x4, hg⟩ : ∃ rb L' bb, exS (calls tb k) (.asg 13 (.call 37 (.cons (.var 3) (.cons (.var 8) (.cons (.var 1) .nil))))) [e0, some (.o 0), e2, some (.o st0.length), some (.d (sgD s)), some (.o (st0.length + 1)), some (.o (st0.length + 2)), some (.o (st0.length + 3)), some (.d (toldD M1)), some (.d (toldD M2)), some (.d (.int q)), some (.d (tmD t)), some (.d (tmD (putT M1 t))), v13, v14, v15, v16] (st0 ++ b5 :: .lst (vs.map varD) :: .dit false (M1.map prD) :: .dit false (M2.map prD) :: L) = .next [e0, some (.o 0), e2, some (.o st0.length), some (.d (sgD s)), some (.o (st0.length + 1)), some (.o (st0.length + 2)), some (.o (st0.length + 3)), some (.d (toldD M1)), some (.d (toldD M2)), some (.d (.int q)), some (.d (tmD t)), some (.d (tmD (putT M1 t))), some rb, v14, v15, v16] (st0 ++ b6 :: .lst (vs.map varD) :: .dit false (M1.map prD) :: .dit false (M2.map prD) :: L') ∧ Giv s 18 rb (st0 ++ b6 :: .lst (vs.map varD) :: .dit false (M1.map prD) :: .dit false (M2.map prD) :: L') bb := by
    rcases hbn with rfl | ⟨xs, rfl, rfl⟩
    · exact ⟨.d eb, L, fitsU s eb, exS_asg_d ((call3 (vE rfl) (vE rfl) (vE rfl)).trans a6), .inl ⟨eb, rfl, by omega, fun ps h => by have := hel ps h; omega, rfl⟩⟩
    · refine ⟨.o (st0 ++ b6 :: .lst (vs.map varD) :: .dit false (M1.map prD) :: .dit false (M2.map prD) :: L).length, L ++ [.lst xs], false, ?_, .inr ⟨_, xs, rfl, ?_, rfl⟩⟩
      · rw [exS_asg_f ((call3 (vE rfl) (vE rfl) (vE rfl)).trans a6)]
        simp
      · have := get_last (st0 ++ b6 :: .lst (vs.map varD) :: .dit false (M1.map prD) :: .dit false (M2.map prD) :: L) (.lst xs)
        simpa using this
  have x5 : exS (calls tb k) (.asg 14 (.call 38 (.cons (.var 4) (.cons (.var 13) .nil)))) [e0, some (.o 0), e2, some (.o st0.length), some (.d (sgD s)), some (.o (st0.length + 1)), some (.o (st0.length + 2)), some (.o (st0.length + 3)), some (.d (toldD M1)), some (.d (toldD M2)), some (.d (.int q)), some (.d (tmD t)), some (.d (tmD (putT M1 t))), some rb, v14, v15, v16] (st0 ++ b6 :: .lst (vs.map varD) :: .dit false (M1.map prD) :: .dit false (M2.map prD) :: L') = .next [e0, some (.o 0), e2, some (.o st0.length), some (.d (sgD s)), some (.o (st0.length + 1)), some (.o (st0.length + 2)), some (.o (st0.length + 3)), some (.d (toldD M1)), some (.d (toldD M2)), some (.d (.int q)), some (.d (tmD t)), some (.d (tmD (putT M1 t))), some rb, some (.d (.bool bb)), v15, v16] (st0 ++ b6 :: .lst (vs.map varD) :: .dit false (M1.map prD) :: .dit false (M2.map prD) :: L') :=
    exS_asg_d ((call2 (vE rfl) (vE rfl)).trans (hg.law g (by omega)))
  have x6 : exS (calls tb k) (.ite (.notE (.call 27 (.cons (.call 20 (.cons (.var 4) (.cons (.var 13) .nil))) (.cons (.var 14) .nil)))) (.cons (.ret (.dat (.bool false))) .nil) .nil) [e0, some (.o 0), e2, some (.o st0.length), some (.d (sgD s)), some (.o (st0.length + 1)), some (.o (st0.length + 2)), some (.o (st0.length + 3)), some (.d (toldD M1)), some (.d (toldD M2)), some (.d (.int q)), some (.d (tmD t)), some (.d (tmD (putT M1 t))), some rb, some (.d (.bool bb)), v15, v16] (st0 ++ b6 :: .lst (vs.map varD) :: .dit false (M1.map prD) :: .dit false (M2.map prD) :: L') = .next [e0, some (.o 0), e2, some (.o st0.length), some (.d (sgD s)), some (.o (st0.length + 1)), some (.o (st0.length + 2)), some (.o (st0.length + 3)), some (.d (toldD M1)), some (.d (toldD M2)), some (.d (.int q)), some (.d (tmD t)), some (.d (tmD (putT M1 t))), some rb, some (.d (.bool bb)), v15, v16] (st0 ++ b6 :: .lst (vs.map varD) :: .dit false (M1.map prD) :: .dit false (M2.map prD) :: L') :=
    skip (not_f ((call2 ((call2 (vE rfl) (vE rfl)).trans (hg.is g (by omega) (by omega))) (vE rfl)).trans (c30b (by omega) bb _)))
  have x7 : exS (calls tb k) (.ite (.andE (.notE (.var 14)) (.cmp .ne (.call 39 (.cons (.var 4) (.cons (.var 11) (.cons (.var 13) (.cons (.dat .none) .nil))))) (.lst (.cons (.dat (.str "none")) (.cons (.dat (.str "told")) (.cons (.dat (.str "told")) .nil)))))) (.cons (.ret (.dat (.bool false))) .nil) .nil) [e0, some (.o 0), e2, some (.o st0.length), some (.d (sgD s)), some (.o (st0.length + 1)), some (.o (st0.length + 2)), some (.o (st0.length + 3)), some (.d (toldD M1)), some (.d (toldD M2)), some (.d (.int q)), some (.d (tmD t)), some (.d (tmD (putT M1 t))), some rb, some (.d (.bool bb)), v15, v16] (st0 ++ b6 :: .lst (vs.map varD) :: .dit false (M1.map prD) :: .dit false (M2.map prD) :: L') = .next [e0, some (.o 0), e2, some (.o st0.length), some (.d (sgD s)), some (.o (st0.length + 1)), some (.o (st0.length + 2)), some (.o (st0.length + 3)), some (.d (toldD M1)), some (.d (toldD M2)), some (.d (.int q)), some (.d (tmD t)), some (.d (tmD (putT M1 t))), some rb, some (.d (.bool bb)), v15, v16] (st0 ++ b6 :: .lst (vs.map varD) :: .dit false (M1.map prD) :: .dit false (M2.map prD) :: L') := by
    refine skip ?_
    rw [evE_and, evE_not, vE (r := .d (.bool bb)) rfl, tst_ok, okB_eq, tst_ok]
    cases bb with
    | true => rfl
    | false =>
      rw [Bool.not_false, if_pos rfl]
      refine words_ne (x := "none") (y := "told") (z := "told") ((call4 (vE rfl) (vE rfl) (vE rfl) (evE_dat _ _ _ _)).trans ?_)
      exact words_ev (by omega) (fun st => by rw [allocs_d, allocs_d, hg.allocs]; rfl) (o0 := none) (o1 := some 2) (o2 := some 2) _ (fun L => ⟨_, (hg.app L).is g (by omega) (by omega)⟩) (fun L => ⟨by omega, c21x g ht hz (hg.app L) (by omega) (by omega)⟩) (fun L => ⟨by omega, c22y g (hg.app L) (by omega) (by omega)⟩)
  have x8 : exS (calls tb k) (.ite (.andE (.notE (.var 14)) (.cmp .ne (.call 39 (.cons (.var 4) (.cons (.var 11) (.cons (.var 8) (.cons (.var 13) .nil))))) (.lst (.cons (.dat (.str "none")) (.cons (.dat (.str "none")) (.cons (.dat (.str "told")) .nil)))))) (.cons (.ret (.dat (.bool false))) .nil) .nil) [e0, some (.o 0), e2, some (.o st0.length), some (.d (sgD s)), some (.o (st0.length + 1)), some (.o (st0.length + 2)), some (.o (st0.length + 3)), some (.d (toldD M1)), some (.d (toldD M2)), some (.d (.int q)), some (.d (tmD t)), some (.d (tmD (putT M1 t))), some rb, some (.d (.bool bb)), v15, v16] (st0 ++ b6 :: .lst (vs.map varD) :: .dit false (M1.map prD) :: .dit false (M2.map prD) :: L') = .next [e0, some (.o 0), e2, some (.o st0.length), some (.d (sgD s)), some (.o (st0.length + 1)), some (.o (st0.length + 2)), some (.o (st0.length + 3)), some (.d (toldD M1)), some (.d (toldD M2)), some (.d (.int q)), some (.d (tmD t)), some (.d (tmD (putT M1 t))), some rb, some (.d (.bool bb)), v15, v16] (st0 ++ b6 :: .lst (vs.map varD) :: .dit false (M1.map prD) :: .dit false (M2.map prD) :: L') := by
    refine skip ?_
    rw [evE_and, evE_not, vE (r := .d (.bool bb)) rfl, tst_ok, okB_eq, tst_ok]
    cases bb with
    | true => rfl
    | false =>
      rw [Bool.not_false, if_pos rfl]
      refine words_ne (x := "none") (y := "none") (z := "told") ((call4 (vE rfl) (vE rfl) (vE rfl) (vE rfl)).trans ?_)
      exact words_ev (by omega) (fun st => by rw [allocs_d, allocs_d, allocs_d, hg.allocs]; rfl) (o0 := none) (o1 := none) (o2 := some 2) _ (fun L => ⟨_, (D1.giv g (by omega) _).is g (by omega) (by omega)⟩) (fun L => ⟨_, c21 g ht hz D1 (by omega) (by omega) _⟩) (fun L => ⟨by omega, c22x g (D1.giv g (by omega) _) (hg.app L) (by omega) (by omega) (by omega)⟩)
  refine ⟨some (.d (tmD t)), some (.d (tmD (putT M1 t))), some rb, some (.d (.bool bb)), b6, L', d6.mono (by omega), ?_⟩
  rw [forB_eq rfl, f41_b1]
  simp only [List.set_cons_succ, List.set_cons_zero]
  rw [go_next x0, go_next x1, go_next x2, go_next x3, go_next x4, go_next x5, go_next x6, go_next x7, go_next x8, exSs_nil]
end K02

namespace K02
open PySem Ev Hd Pl

theorem turns {k : Nat} (hk : 140 ≤ k) {s : Sg} (g : Gs s) (hs0 : s ≠ []) {vs : List Vr} (hv : Kn s vs) (hvl : vs.length ≤ 1000) {M1 M2 : Sub} (D1 : Sb s M1 6) (D2 : Sb s M2 6) (hl : M1.length + M2.length ≤ 20) {st0 : List Ob} {odd : List D} (ho : Odd odd) (hod : st0[0]? = some (.lst odd)) {n : Nat} (e0 e2 v15 v16 : Option R) : ∀ (ts : List Int) (b : Ob) (L : List Ob) (v10 v11 v12 v13 v14 : Option R), Dk (n + 300 * ts.length) b →
    ∃ w10 w11 w12 w13 w14 b' L', Dk n b' ∧ loopS (forB (calls tb k) (.name 10) f41_b1) none (ts.map .int) [e0, some (.o 0), e2, some (.o st0.length), some (.d (sgD s)), some (.o (st0.length + 1)), some (.o (st0.length + 2)), some (.o (st0.length + 3)), some (.d (toldD M1)), some (.d (toldD M2)), v10, v11, v12, v13, v14, v15, v16] (st0 ++ b :: .lst (vs.map varD) :: .dit false (M1.map prD) :: .dit false (M2.map prD) :: L) = .next [e0, some (.o 0), e2, some (.o st0.length), some (.d (sgD s)), some (.o (st0.length + 1)), some (.o (st0.length + 2)), some (.o (st0.length + 3)), some (.d (toldD M1)), some (.d (toldD M2)), w10, w11, w12, w13, w14, v15, v16] (st0 ++ b' :: .lst (vs.map varD) :: .dit false (M1.map prD) :: .dit false (M2.map prD) :: L')
  | [], b, L, v10, v11, v12, v13, v14, hb => ⟨v10, v11, v12, v13, v14, b, L, hb, by simp⟩
  | q :: ts, b, L, v10, v11, v12, v13, v14, hb => by
    obtain ⟨w11, w12, w13, w14, b1, L1, d1, e1⟩ := turn_step hk g hs0 hv hvl D1 D2 hl ho hod (n := n + 300 * ts.length) (b := b) (hb.mono (by simp; omega)) L q e0 e2 v10 v11 v12 v13 v14 v15 v16
    obtain ⟨x10, x11, x12, x13, x14, b2, L2, d2, e2'⟩ := turns hk g hs0 hv hvl D1 D2 hl ho hod e0 e2 v15 v16 ts b1 L1 (some (.d (.int q))) w11 w12 w13 w14 d1
    refine ⟨x10, x11, x12, x13, x14, b2, L2, d2, ?_⟩
    rw [List.map_cons, loopS_next e1 (same_none _ _)]
    exact e2' 
/-! ### what is due -/
structure Du (M1 M2 : Sub) (vs dn : List Vr) (T : Sub) : Prop where
  nd : (T.map (·.1)).Nodup
  val : ∀ p ∈ T, p.2 = putT M2 (putV M1 p.1)
  kv : ∀ p ∈ T, p.1 ∈ vs
  all : ∀ v ∈ dn, (lkS T v).isSome = true
  le : T.length ≤ dn.length
theorem lkS_putk {T : Sub} (h : (T.map (·.1)).Nodup) (v w : Vr) (t : Tm) : (lkS T w).isSome = true → (lkS (putS T v t) w).isSome = true := by
  intro hw
  obtain ⟨u, hu⟩ := Option.isSome_iff_exists.mp hw
  rw [putS]
  split
  · have : lkS (T.map fun p => if p.1 = v then (p.1, t) else p) w ≠ none := fun e => by
      have h1 := lkS_in hu
      by_cases c : w = v
      · exact lkS_none e (w, t) (List.mem_map.mpr ⟨(w, u), h1, by simp [c]⟩) rfl
      · exact lkS_none e (w, u) (List.mem_map.mpr ⟨(w, u), h1, by simp [c]⟩) rfl
    cases c : lkS (T.map fun p => if p.1 = v then (p.1, t) else p) w with
    | none => exact absurd c this
    | some z => rfl
  · rw [lkS_app, hu]
    rfl
theorem lk_put_self (T : Sub) (v : Vr) (t : Tm) : (lkS (putS T v t) v).isSome = true := by
  rw [putS]
  split
  · rename_i h
    obtain ⟨u, hu⟩ := Option.isSome_iff_exists.mp h
    have : lkS (T.map fun p => if p.1 = v then (p.1, t) else p) v ≠ none := fun e =>
      lkS_none e (v, t) (List.mem_map.mpr ⟨(v, u), lkS_in hu, by simp⟩) rfl
    cases c : lkS (T.map fun p => if p.1 = v then (p.1, t) else p) v with
    | none => exact absurd c this
    | some z => rfl
  · rename_i h
    rw [lkS_app]
    cases c : lkS T v <;> simp
theorem due_loop {k : Nat} (hk : 140 ≤ k) {s : Sg} {vs : List Vr} {M1 M2 : Sub} (D1 : Sb s M1 6) (D2 : Sb s M2 6) {st0 P : List Ob} {b : Ob} {L : List Ob} (hP : P = (st0 ++ b :: .lst (vs.map varD) :: .dit false (M1.map prD) :: .dit false (M2.map prD) :: L)) (e0 e2 v10 v11 v12 v13 v14 : Option R) : ∀ (us dn : List Vr) (T : Sub) (v16 : Option R), (∀ v ∈ us, v ∈ vs) → Du M1 M2 vs dn T → dn.length + us.length ≤ 20 →
    ∃ T' w16, Du M1 M2 vs (dn ++ us) T' ∧ loopS (forB (calls tb k) (.name 16) f41_b2) (some (st0.length + 1)) (us.map varD) [e0, some (.o 0), e2, some (.o st0.length), some (.d (sgD s)), some (.o (st0.length + 1)), some (.o (st0.length + 2)), some (.o (st0.length + 3)), some (.d (toldD M1)), some (.d (toldD M2)), v10, v11, v12, v13, v14, some (.o P.length), v16] (P ++ [.dit false (T.map prD)]) = .next [e0, some (.o 0), e2, some (.o st0.length), some (.d (sgD s)), some (.o (st0.length + 1)), some (.o (st0.length + 2)), some (.o (st0.length + 3)), some (.d (toldD M1)), some (.d (toldD M2)), v10, v11, v12, v13, v14, some (.o P.length), w16] (P ++ [.dit false (T'.map prD)])
  | [], dn, T, v16, _, h, _ => ⟨T, v16, by simpa using h, by simp⟩
  | v :: us, dn, T, v16, hu, h, hl => by
    have hvv := hu v (by simp)
    have hz1 : (putV M1 v).dep ≤ 7 := by
      have := put_depM (M := M1) (m := 6) D1.sz (.var v.1 v.2)
      rw [putT_v] at this
      simp only [Tm.dep] at this
      omega
    have s1 : (P ++ [Ob.dit false (T.map prD)])[st0.length + 2]? = some (.dit false (M1.map prD)) := by rw [hP, List.append_assoc, h5]; rfl
    have s2 : (P ++ [Ob.dit false (T.map prD)])[st0.length + 3]? = some (.dit false (M2.map prD)) := by rw [hP, List.append_assoc, h5]; rfl
    have k1 : calls tb k 33 [.d (varD v), .o (st0.length + 2)] (P ++ [.dit false (T.map prD)]) = .ok (.d (tmD (putV M1 v))) (P ++ [.dit false (T.map prD)]) := by
      have := p41 (.var v.1 v.2) (k := k) (by simp only [Tm.dep]; omega) _ s1
      rw [putT_v] at this
      exact this
    have k2 := p41 (putV M1 v) (k := k) (by omega) _ s2
    have sb := sub_s (get_last P (.dit false (T.map prD))) (by have := h.le; simp at hl; omega) v (putT M2 (putV M1 v))
    rw [set_last] at sb
    obtain ⟨T', w16, h', e'⟩ := due_loop hk D1 D2 hP e0 e2 v10 v11 v12 v13 v14 us (dn ++ [v]) (putS T v (putT M2 (putV M1 v))) (some (.d (varD v))) (fun w hw => hu w (by simp [hw])) ⟨putS_nd h.nd _ _, fun p hp => by
      rcases putS_mem hp with hp | rfl
      · exact h.val p hp
      · rfl, fun p hp => by
      rcases putS_mem hp with hp | rfl
      · exact h.kv p hp
      · exact hvv, fun w hw => by
      rcases List.mem_append.mp hw with hw | hw
      · exact lkS_putk h.nd _ _ _ (h.all w hw)
      · rw [List.mem_singleton.mp hw]
        exact lk_put_self _ _ _, by have := putS_len T v (putT M2 (putV M1 v)); have := h.le; simp; omega⟩ (by simp at hl ⊢; omega)
    refine ⟨T', w16, by simpa using h', ?_⟩
    rw [List.map_cons, loopS_next (env' := [e0, some (.o 0), e2, some (.o st0.length), some (.d (sgD s)), some (.o (st0.length + 1)), some (.o (st0.length + 2)), some (.o (st0.length + 3)), some (.d (toldD M1)), some (.d (toldD M2)), v10, v11, v12, v13, v14, some (.o P.length), some (.d (varD v))]) (st' := P ++ [.dit false ((putS T v (putT M2 (putV M1 v))).map prD)]) ?_ ?_, e']
    · rw [forB_eq rfl, f41_b2]
      refine (go_next (exS_sub' (x := .d (tmD (putT M2 (putV M1 v)))) (y := .o P.length) (z := .d (varD v)) (st1 := P ++ [.dit false (T.map prD)]) ?_ ?_ ?_ sb)).trans ?_
      · simp only [List.set_cons_succ, List.set_cons_zero]
        exact (call2 ((call2 (vE rfl) (vE rfl)).trans k1) (vE rfl)).trans k2
      · simp
      · simp
      · rw [exSs_nil]
        rfl
    · intro i hi
      cases hi
      have hlt : st0.length + 1 < P.length := by rw [hP]; simp
      rw [List.getElem?_append_left hlt, List.getElem?_append_left hlt]
theorem due_mo {s : Sg} {M1 M2 : Sub} (D1 : Sb s M1 6) (D2 : Sb s M2 6) {vs dn : List Vr} {T : Sub} (h : Du M1 M2 vs dn T) : Mo T := ⟨h.nd, fun p hp => by
  rw [h.val p hp]
  have h1 := put_size D2.vs (by omega) (putV M1 p.1)
  have h2 := put_size D1.vs (by omega) (.var p.1.1 p.1.2)
  rw [putT_v] at h2
  simp only [Tm.size] at h2
  omega⟩
theorem due_told {s : Sg} {M1 M2 : Sub} (D1 : Sb s M1 6) (D2 : Sb s M2 6) (hl : M1.length + M2.length ≤ 20) {vs : List Vr} (k1 : ∀ p ∈ M1, p.1 ∈ vs) (k2 : ∀ p ∈ M2, p.1 ∈ vs) {T : Sub} (h : Du M1 M2 vs vs T) : toldD T = toldD (cmp2 M1 M2) := by
  refine toldD_ext (due_mo D1 D2 h) ((Sb.comp D1 D2 hl).mo (by omega)) fun v => ?_
  rw [cmp2_put D1 D2]
  cases e : lkS T v with
  | some u =>
    rw [putV, e]
    exact h.val _ (lkS_in e)
  | none =>
    have hn : v ∉ vs := fun m => by
      have := h.all v m
      rw [e] at this
      cases this
    have e1 : putV M1 v = .var v.1 v.2 := by
      rw [putV]
      cases c : lkS M1 v with
      | none => rfl
      | some u => exact absurd (k1 _ (lkS_in c)) hn
    have e2 : putV M2 v = .var v.1 v.2 := by
      rw [putV]
      cases c : lkS M2 v with
      | none => rfl
      | some u => exact absurd (k2 _ (lkS_in c)) hn
    rw [e1, putT_v, e2, putV, e]
    rfl
/-! ### a cell -/
theorem cell_step {k : Nat} (hk : 140 ≤ k) {odd : List D} (ho : Odd odd) (st0 : List Ob) (hod : st0[0]? = some (.lst odd)) (e0 v2 : Option R) (cell : Int) (v3 v4 v5 v6 v7 v8 v9 v10 v11 v12 v13 v14 v15 v16 : Option R) :
    ∃ u3 u4 u5 u6 u7 u8 u9 u10 u11 u12 u13 u14 u15 u16 st', st'[0]? = some (.lst odd) ∧ forB (calls tb k) (.name 2) f41_b0 (.int cell) [e0, some (.o 0), v2, v3, v4, v5, v6, v7, v8, v9, v10, v11, v12, v13, v14, v15, v16] st0 = .next [e0, some (.o 0), some (.d (.int cell)), u3, u4, u5, u6, u7, u8, u9, u10, u11, u12, u13, u14, u15, u16] st' := by
  obtain ⟨b0, d0, a0⟩ := c25 (k := k) (by omega) cell st0
  have d0 : Dk 100000000 b0 := d0.mono (by omega)
  obtain ⟨s, b1, g, hs0, d1, a1⟩ := c31 (k := k) (by omega) (n := 90000000) (i := st0.length) (kinds := 2) (more := 4) (by omega) (by omega) (by omega) (st0 ++ [b0]) (h1 _ _ _) (d0.mono (by omega))
  rw [h2] at a1
  obtain ⟨vs, b2, hv, hvl, d2, a2⟩ := c33 (k := k) (by omega) (n := 80000000) (m := 6) (i := st0.length) g hs0 (by omega) (st0 ++ [b1]) (h1 _ _ _) (d1.mono (by omega))
  rw [h2] at a2
  obtain ⟨M1, b3, r1, l1, d3, a3⟩ := d40 (k := k) (by omega) g hv (by omega) (n := 70000000) (i := st0.length) (m := st0.length + 1) (st0 ++ [b2, .lst (vs.map varD)]) (h1 _ _ _) (h4 _ _ _ _) (by omega) (d2.mono (by omega))
  rw [h2] at a3
  obtain ⟨M2, b4, r2, l2, d4, a4⟩ := d40 (k := k) (by omega) g hv (by omega) (n := 60000000) (i := st0.length) (m := st0.length + 1) (st0 ++ [b3, .lst (vs.map varD)]) (h1 _ _ _) (h4 _ _ _ _) (by omega) (d3.mono (by omega))
  rw [h2] at a4
  have D1 := r1.sb hv (by omega)
  have D2 := r2.sb hv (by omega)
  have hl : M1.length + M2.length ≤ 20 := by omega
  have x0 : exS (calls tb k) (.asg 3 (.call 23 (.cons (.var 2) .nil))) [e0, some (.o 0), some (.d (.int cell)), v3, v4, v5, v6, v7, v8, v9, v10, v11, v12, v13, v14, v15, v16] st0 = .next [e0, some (.o 0), some (.d (.int cell)), some (.o st0.length), v4, v5, v6, v7, v8, v9, v10, v11, v12, v13, v14, v15, v16] (st0 ++ [b0]) := by
    simp [a0]
  have x1 : exS (calls tb k) (.asg 4 (.call 29 (.cons (.var 3) (.cons (.dat (.int 2)) (.cons (.dat (.int 4)) .nil))))) [e0, some (.o 0), some (.d (.int cell)), some (.o st0.length), v4, v5, v6, v7, v8, v9, v10, v11, v12, v13, v14, v15, v16] (st0 ++ [b0]) = .next [e0, some (.o 0), some (.d (.int cell)), some (.o st0.length), some (.d (sgD s)), v5, v6, v7, v8, v9, v10, v11, v12, v13, v14, v15, v16] (st0 ++ [b1]) := by
    simp at a1
    simp [a1]
  have x2 : exS (calls tb k) (.asg 5 (.call 31 (.cons (.var 3) (.cons (.var 4) (.cons (.dat (.int 6)) .nil))))) [e0, some (.o 0), some (.d (.int cell)), some (.o st0.length), some (.d (sgD s)), v5, v6, v7, v8, v9, v10, v11, v12, v13, v14, v15, v16] (st0 ++ [b1]) = .next [e0, some (.o 0), some (.d (.int cell)), some (.o st0.length), some (.d (sgD s)), some (.o (st0.length + 1)), v6, v7, v8, v9, v10, v11, v12, v13, v14, v15, v16] (st0 ++ [b2, .lst (vs.map varD)]) := by
    simp at a2
    simp [a2]
  have x3 : exS (calls tb k) (.par [6, 7] (.cons (.call 40 (.cons (.var 3) (.cons (.var 4) (.cons (.var 5) .nil)))) (.cons (.call 40 (.cons (.var 3) (.cons (.var 4) (.cons (.var 5) .nil)))) .nil))) [e0, some (.o 0), some (.d (.int cell)), some (.o st0.length), some (.d (sgD s)), some (.o (st0.length + 1)), v6, v7, v8, v9, v10, v11, v12, v13, v14, v15, v16] (st0 ++ [b2, .lst (vs.map varD)]) = .next [e0, some (.o 0), some (.d (.int cell)), some (.o st0.length), some (.d (sgD s)), some (.o (st0.length + 1)), some (.o (st0.length + 2)), some (.o (st0.length + 3)), v8, v9, v10, v11, v12, v13, v14, v15, v16] (st0 ++ b4 :: .lst (vs.map varD) :: .dit false (M1.map prD) :: .dit false (M2.map prD) :: []) := by
    have e1 : evE (calls tb k) (.call 40 (.cons (.var 3) (.cons (.var 4) (.cons (.var 5) .nil)))) [e0, some (.o 0), some (.d (.int cell)), some (.o st0.length), some (.d (sgD s)), some (.o (st0.length + 1)), v6, v7, v8, v9, v10, v11, v12, v13, v14, v15, v16] (st0 ++ [b2, .lst (vs.map varD)]) = .ok (.f (.dit false (M1.map prD))) (st0 ++ [b3, .lst (vs.map varD)]) := (call3 (vE rfl) (vE rfl) (vE rfl)).trans a3
    have e2 : evE (calls tb k) (.call 40 (.cons (.var 3) (.cons (.var 4) (.cons (.var 5) .nil)))) [e0, some (.o 0), some (.d (.int cell)), some (.o st0.length), some (.d (sgD s)), some (.o (st0.length + 1)), v6, v7, v8, v9, v10, v11, v12, v13, v14, v15, v16] (st0 ++ [b3, .lst (vs.map varD)]) = .ok (.f (.dit false (M2.map prD))) (st0 ++ [b4, .lst (vs.map varD)]) := (call3 (vE rfl) (vE rfl) (vE rfl)).trans a4
    rw [exS_par, evEs_cons, e1, rs_ok, evEs_cons, e2, rs_ok, evEs_nil, rs_ok, rs_ok, fl_ok]
    simp [parSet]
  have m1 := D1.mo (by omega)
  have m2 := D2.mo (by omega)
  have x4 : exS (calls tb k) (.par [8, 9] (.cons (.call 34 (.cons (.var 6) .nil)) (.cons (.call 34 (.cons (.var 7) .nil)) .nil))) [e0, some (.o 0), some (.d (.int cell)), some (.o st0.length), some (.d (sgD s)), some (.o (st0.length + 1)), some (.o (st0.length + 2)), some (.o (st0.length + 3)), v8, v9, v10, v11, v12, v13, v14, v15, v16] (st0 ++ b4 :: .lst (vs.map varD) :: .dit false (M1.map prD) :: .dit false (M2.map prD) :: []) = .next [e0, some (.o 0), some (.d (.int cell)), some (.o st0.length), some (.d (sgD s)), some (.o (st0.length + 1)), some (.o (st0.length + 2)), some (.o (st0.length + 3)), some (.d (toldD M1)), some (.d (toldD M2)), v10, v11, v12, v13, v14, v15, v16] (st0 ++ b4 :: .lst (vs.map varD) :: .dit false (M1.map prD) :: .dit false (M2.map prD) :: []) := by
    have e1 := c42v (k := k) (by omega) m1 (j := st0.length + 2) (st0 ++ b4 :: .lst (vs.map varD) :: .dit false (M1.map prD) :: .dit false (M2.map prD) :: []) (by rw [h5]; rfl)
    have e2 := c42v (k := k) (by omega) m2 (j := st0.length + 3) (st0 ++ b4 :: .lst (vs.map varD) :: .dit false (M1.map prD) :: .dit false (M2.map prD) :: []) (by rw [h5]; rfl)
    have f1 : evE (calls tb k) (.call 34 (.cons (.var 6) .nil)) [e0, some (.o 0), some (.d (.int cell)), some (.o st0.length), some (.d (sgD s)), some (.o (st0.length + 1)), some (.o (st0.length + 2)), some (.o (st0.length + 3)), v8, v9, v10, v11, v12, v13, v14, v15, v16] (st0 ++ b4 :: .lst (vs.map varD) :: .dit false (M1.map prD) :: .dit false (M2.map prD) :: []) = .ok (.d (toldD M1)) (st0 ++ b4 :: .lst (vs.map varD) :: .dit false (M1.map prD) :: .dit false (M2.map prD) :: []) := (call1 (vE rfl)).trans e1
    have f2 : evE (calls tb k) (.call 34 (.cons (.var 7) .nil)) [e0, some (.o 0), some (.d (.int cell)), some (.o st0.length), some (.d (sgD s)), some (.o (st0.length + 1)), some (.o (st0.length + 2)), some (.o (st0.length + 3)), v8, v9, v10, v11, v12, v13, v14, v15, v16] (st0 ++ b4 :: .lst (vs.map varD) :: .dit false (M1.map prD) :: .dit false (M2.map prD) :: []) = .ok (.d (toldD M2)) (st0 ++ b4 :: .lst (vs.map varD) :: .dit false (M1.map prD) :: .dit false (M2.map prD) :: []) := (call1 (vE rfl)).trans e2
    rw [exS_par, evEs_cons, f1, rs_ok, evEs_cons, f2, rs_ok, evEs_nil, rs_ok, rs_ok, fl_ok]
    simp [parSet]
  have x5 : exS (calls tb k) (.ite (.notE (.call 27 (.cons (.lst (.cons (.call 20 (.cons (.var 4) (.cons (.var 8) .nil))) (.cons (.call 20 (.cons (.var 4) (.cons (.tup .nil) .nil))) .nil))) (.cons (.lst (.cons (.dat (.bool true)) (.cons (.dat (.bool true)) .nil))) .nil)))) (.cons (.ret (.dat (.bool false))) .nil) .nil) [e0, some (.o 0), some (.d (.int cell)), some (.o st0.length), some (.d (sgD s)), some (.o (st0.length + 1)), some (.o (st0.length + 2)), some (.o (st0.length + 3)), some (.d (toldD M1)), some (.d (toldD M2)), v10, v11, v12, v13, v14, v15, v16] (st0 ++ b4 :: .lst (vs.map varD) :: .dit false (M1.map prD) :: .dit false (M2.map prD) :: []) = .next [e0, some (.o 0), some (.d (.int cell)), some (.o st0.length), some (.d (sgD s)), some (.o (st0.length + 1)), some (.o (st0.length + 2)), some (.o (st0.length + 3)), some (.d (toldD M1)), some (.d (toldD M2)), v10, v11, v12, v13, v14, v15, v16] (st0 ++ b4 :: .lst (vs.map varD) :: .dit false (M1.map prD) :: .dit false (M2.map prD) :: []) := by
    refine skip (not_f ((call2 (lst2 ((call2 (vE rfl) (vE rfl)).trans ((D1.giv g (by omega) _).is g (by omega) (by omega))) ((call2 (vE rfl) tup0).trans (((sb_nil s).giv g (by omega) _).is g (by omega) (by omega)))) (lst2 (evE_dat _ _ _ _) (evE_dat _ _ _ _))).trans ?_))
    exact c30L (by omega) (by simp) (fun x hx st => by
      simp only [List.mem_cons, List.not_mem_nil, or_false, or_self] at hx
      subst hx
      exact c30b (by omega) true st) _
  obtain ⟨w10, w11, w12, w13, w14, b5, L5, d5, a5⟩ := turns hk g hs0 hv (by omega) D1 D2 hl ho hod (n := 50000000) e0 (some (.d (.int cell))) v15 v16 [0, 1, 2, 3] b4 [] v10 v11 v12 v13 v14 (d4.mono (by simp))
  have i6 : evI (calls tb k) (.range1 (.dat (.int 4))) [e0, some (.o 0), some (.d (.int cell)), some (.o st0.length), some (.d (sgD s)), some (.o (st0.length + 1)), some (.o (st0.length + 2)), some (.o (st0.length + 3)), some (.d (toldD M1)), some (.d (toldD M2)), v10, v11, v12, v13, v14, v15, v16] (st0 ++ b4 :: .lst (vs.map varD) :: .dit false (M1.map prD) :: .dit false (M2.map prD) :: []) = .ok ([0, 1, 2, 3].map .int, none) (st0 ++ b4 :: .lst (vs.map varD) :: .dit false (M1.map prD) :: .dit false (M2.map prD) :: []) := evI_range (n := 4) (by simp) (by omega)
  have x6 : exS (calls tb k) (.for (.name 10) (.range1 (.dat (.int 4))) f41_b1) [e0, some (.o 0), some (.d (.int cell)), some (.o st0.length), some (.d (sgD s)), some (.o (st0.length + 1)), some (.o (st0.length + 2)), some (.o (st0.length + 3)), some (.d (toldD M1)), some (.d (toldD M2)), v10, v11, v12, v13, v14, v15, v16] (st0 ++ b4 :: .lst (vs.map varD) :: .dit false (M1.map prD) :: .dit false (M2.map prD) :: []) = .next [e0, some (.o 0), some (.d (.int cell)), some (.o st0.length), some (.d (sgD s)), some (.o (st0.length + 1)), some (.o (st0.length + 2)), some (.o (st0.length + 3)), some (.d (toldD M1)), some (.d (toldD M2)), w10, w11, w12, w13, w14, v15, v16] (st0 ++ b5 :: .lst (vs.map varD) :: .dit false (M1.map prD) :: .dit false (M2.map prD) :: L5) := by
    rw [exS_for, i6, fl_ok]
    exact a5
  obtain ⟨P, hP⟩ : ∃ P, P = (st0 ++ b5 :: .lst (vs.map varD) :: .dit false (M1.map prD) :: .dit false (M2.map prD) :: L5) := ⟨_, rfl⟩
  rw [← hP] at x6
  have x7 : exS (calls tb k) (.asg 15 .dnewT) [e0, some (.o 0), some (.d (.int cell)), some (.o st0.length), some (.d (sgD s)), some (.o (st0.length + 1)), some (.o (st0.length + 2)), some (.o (st0.length + 3)), some (.d (toldD M1)), some (.d (toldD M2)), w10, w11, w12, w13, w14, v15, v16] P = .next [e0, some (.o 0), some (.d (.int cell)), some (.o st0.length), some (.d (sgD s)), some (.o (st0.length + 1)), some (.o (st0.length + 2)), some (.o (st0.length + 3)), some (.d (toldD M1)), some (.d (toldD M2)), w10, w11, w12, w13, w14, some (.o P.length), v16] (P ++ [.dit false []]) := by
    rw [exS_asg_f (st' := P) (b := .dit false []) (by simp)]
    simp
  obtain ⟨T, w16, hT, a8⟩ := due_loop hk D1 D2 (vs := vs) hP e0 (some (.d (.int cell))) w10 w11 w12 w13 w14 vs [] [] v16 (fun v h => h) ⟨List.nodup_nil, fun p hp => by simp at hp, fun p hp => by simp at hp, fun p hp => by simp at hp, by simp⟩ (by simp; omega)
  rw [List.nil_append] at hT
  have hkn : (P ++ [Ob.dit false []])[st0.length + 1]? = some (.lst (vs.map varD)) := by rw [hP, List.append_assoc, h5]; rfl
  have x8 : exS (calls tb k) (.for (.name 16) (.of (.var 5)) f41_b2) [e0, some (.o 0), some (.d (.int cell)), some (.o st0.length), some (.d (sgD s)), some (.o (st0.length + 1)), some (.o (st0.length + 2)), some (.o (st0.length + 3)), some (.d (toldD M1)), some (.d (toldD M2)), w10, w11, w12, w13, w14, some (.o P.length), v16] (P ++ [.dit false []]) = .next [e0, some (.o 0), some (.d (.int cell)), some (.o st0.length), some (.d (sgD s)), some (.o (st0.length + 1)), some (.o (st0.length + 2)), some (.o (st0.length + 3)), some (.d (toldD M1)), some (.d (toldD M2)), w10, w11, w12, w13, w14, some (.o P.length), w16] (P ++ [.dit false (T.map prD)]) := by
    rw [exS_for, evI_obj (i := st0.length + 1) (xs := vs.map varD) (by simp) hkn, fl_ok]
    exact a8
  have mT := due_mo D1 D2 hT
  have eT := due_told D1 D2 hl r1.kv r2.kv hT
  have c34T := c42v (k := k) (by omega) mT (j := P.length) (P ++ [.dit false (T.map prD)]) (get_last _ _)
  rw [eT] at c34T
  have x9 : exS (calls tb k) (.ite (.orE (.notE (.call 27 (.cons (.call 22 (.cons (.var 4) (.cons (.var 8) (.cons (.var 9) .nil)))) (.cons (.call 34 (.cons (.var 15) .nil)) .nil)))) (.notE (.call 27 (.cons (.lst (.cons (.call 22 (.cons (.var 4) (.cons (.var 8) (.cons (.tup .nil) .nil)))) (.cons (.call 22 (.cons (.var 4) (.cons (.tup .nil) (.cons (.var 9) .nil)))) .nil))) (.cons (.lst (.cons (.var 8) (.cons (.var 9) .nil))) .nil))))) (.cons (.ret (.dat (.bool false))) .nil) .nil) [e0, some (.o 0), some (.d (.int cell)), some (.o st0.length), some (.d (sgD s)), some (.o (st0.length + 1)), some (.o (st0.length + 2)), some (.o (st0.length + 3)), some (.d (toldD M1)), some (.d (toldD M2)), w10, w11, w12, w13, w14, some (.o P.length), w16] (P ++ [.dit false (T.map prD)]) = .next [e0, some (.o 0), some (.d (.int cell)), some (.o st0.length), some (.d (sgD s)), some (.o (st0.length + 1)), some (.o (st0.length + 2)), some (.o (st0.length + 3)), some (.d (toldD M1)), some (.d (toldD M2)), w10, w11, w12, w13, w14, some (.o P.length), w16] (P ++ [.dit false (T.map prD)]) := by
    refine skip (or_ff (not_f ((call2 ((call3 (vE rfl) (vE rfl) (vE rfl)).trans (c22 g D1 D2 hl (by omega) _)) ((call1 (vE rfl)).trans c34T)).trans (same_told (Sb.comp D1 D2 hl) (by omega) (by omega) _))) (not_f ?_))
    refine (call2 (lst2 ((call3 (vE rfl) (vE rfl) tup0).trans ((c22 g D1 (sb_nil s) (by simp; omega) (by omega) _).trans (by rw [cmp2_l D1]))) ((call3 (vE rfl) tup0 (vE rfl)).trans ((c22 g (sb_nil s) D2 (by simp; omega) (by omega) _).trans (by rw [cmp2_r D2])))) (lst2 (vE rfl) (vE rfl))).trans ?_
    exact c30L (by omega) (by simp) (fun x hx st => by
      simp only [List.mem_cons, List.not_mem_nil, or_false] at hx
      rcases hx with rfl | rfl
      · exact same_told D1 (by omega) (by omega) st
      · exact same_told D2 (by omega) (by omega) st) _
  have x10 : exS (calls tb k) (.ite (.orE (.cmp .ne (.call 39 (.cons (.var 4) (.cons (.dat .none) (.cons (.var 8) (.cons (.var 9) .nil))))) (.lst (.cons (.dat (.str "none")) (.cons (.dat (.str "term")) (.cons (.dat (.str "none")) .nil))))) (.cmp .ne (.call 39 (.cons (.tup (.cons (.tup (.cons (.dat (.str "a")) (.cons (.tup .nil) (.cons (.dat (.str "a")) .nil)))) (.cons (.dat (.int 5)) .nil))) (.cons (.dat .none) (.cons (.dat .none) (.cons (.dat .none) .nil))))) (.prim .mul (.cons (.lst (.cons (.dat (.str "signature")) .nil)) (.cons (.dat (.int 3)) .nil))))) (.cons (.ret (.dat (.bool false))) .nil) .nil) [e0, some (.o 0), some (.d (.int cell)), some (.o st0.length), some (.d (sgD s)), some (.o (st0.length + 1)), some (.o (st0.length + 2)), some (.o (st0.length + 3)), some (.d (toldD M1)), some (.d (toldD M2)), w10, w11, w12, w13, w14, some (.o P.length), w16] (P ++ [.dit false (T.map prD)]) = .next [e0, some (.o 0), some (.d (.int cell)), some (.o st0.length), some (.d (sgD s)), some (.o (st0.length + 1)), some (.o (st0.length + 2)), some (.o (st0.length + 3)), some (.d (toldD M1)), some (.d (toldD M2)), w10, w11, w12, w13, w14, some (.o P.length), w16] (P ++ [.dit false (T.map prD)]) := by
    refine skip (or_ff (st1 := (P ++ [.dit false (T.map prD)])) (words_ne (x := "none") (y := "term") (z := "none") ((call4 (vE rfl) (evE_dat _ _ _ _) (vE rfl) (vE rfl)).trans ?_)) ?_)
    · exact words_ev (by omega) (fun st => rfl) (o0 := none) (o1 := some 1) (o2 := none) _ (fun L => ⟨_, (D1.giv g (by omega) _).is g (by omega) (by omega)⟩) (fun L => ⟨by omega, c21t g (by simp [PyData.depth]) (srt_nt (by simp)) (D1.giv g (by omega) _) (by omega)⟩) (fun L => ⟨_, c22 g D1 D2 hl (by omega) _⟩)
    · refine (cmpE (x := .f (.lst [.str "signature", .str "signature", .str "signature"])) (y := .f (.lst [.str "signature", .str "signature", .str "signature"])) (st1 := (P ++ [.dit false (T.map prD)])) ?_ ?_).trans (ne_words ["signature", "signature", "signature"] _)
      · refine (call4 (x := .d bad2) ?_ (evE_dat _ _ _ _) (evE_dat _ _ _ _) (evE_dat _ _ _ _)).trans (bad_words (by omega) _)
        simp only [evE_tup, evEs_cons, evE_dat, evEs_nil, rs_ok, toDs, toD_d]
        rfl
      · simp only [evE_prim, evEs_cons, evE_lst, evE_dat, evEs_nil, rs_ok, toDs, toD_d]
        rfl

  refine ⟨some (.o st0.length), some (.d (sgD s)), some (.o (st0.length + 1)), some (.o (st0.length + 2)), some (.o (st0.length + 3)), some (.d (toldD M1)), some (.d (toldD M2)), w10, w11, w12, w13, w14, some (.o P.length), w16, (P ++ [.dit false (T.map prD)]), ?_, ?_⟩
  · rw [hP, List.append_assoc]
    exact get_app hod _
  · rw [forB_eq rfl, f41_b0]
    simp only [List.set_cons_succ, List.set_cons_zero]
    rw [go_next x0, go_next x1, go_next x2, go_next x3, go_next x4, go_next x5, go_next x6, go_next x7, go_next x8, go_next x9, go_next x10, exSs_nil]
/-! ### the law -/
def oddL : List D := [.none, .bool true, .int 0, .str "", .str "a", .tuple [], .list [], .tuple [.str "var", .str "X", .str "a"], .tuple [.tuple [.str "var", .str "X", .str "a"], .tuple [.str "var", .str "X", .str "a"]], .tuple [.str "app", .str "a", .tuple []]]
theorem oddL_ok : Odd oddL := by
  refine ⟨by simp [oddL], by decide, fun x hx => ?_, fun x hx ps e => ?_⟩
  · simp only [oddL, List.mem_cons, List.not_mem_nil, or_false] at hx
    rcases hx with rfl | rfl | rfl | rfl | rfl | rfl | rfl | rfl | rfl | rfl <;> simp [PyData.depth, PyData.depthAll]
  · subst e
    simp only [oddL, List.mem_cons, List.not_mem_nil, or_false] at hx
    rcases hx with e | e | e | e | e | e | e | e | e | e <;> first | (injection e with e; subst e; simp) | cases e
theorem law_ok (ns : List Int) (hn : ns.length ≤ 63) : ∃ st, calls tb 230 41 [.d (.list (ns.map .int))] [] = .ok (.d (.bool true)) st := by
  refine ⟨[], ?_⟩
  obtain ⟨e0, he0⟩ : ∃ e0, e0 = some (R.d (.list (ns.map .int))) := ⟨_, rfl⟩
  have lp : ∃ w2 w3 w4 w5 w6 w7 w8 w9 w10 w11 w12 w13 w14 w15 w16 st', loopS (forB (calls tb 229) (.name 2) f41_b0) none (((7190013 :: ns).take 6).map .int) [e0, some (.o 0), none, none, none, none, none, none, none, none, none, none, none, none, none, none, none] [.lst oddL] = .next [e0, some (.o 0), w2, w3, w4, w5, w6, w7, w8, w9, w10, w11, w12, w13, w14, w15, w16] st' := by
    refine loop_on (body := forB (calls tb 229) (.name 2) f41_b0) (g := none) (fun ys env' st' => (∀ y ∈ ys, ∃ c : Int, y = .int c) ∧ st'[0]? = some (.lst oddL) ∧ ∃ w2 w3 w4 w5 w6 w7 w8 w9 w10 w11 w12 w13 w14 w15 w16, env' = [e0, some (.o 0), w2, w3, w4, w5, w6, w7, w8, w9, w10, w11, w12, w13, w14, w15, w16]) (((7190013 :: ns).take 6).map .int) [e0, some (.o 0), none, none, none, none, none, none, none, none, none, none, none, none, none, none, none] [.lst oddL] ⟨fun y hy => by
      obtain ⟨c, _, rfl⟩ := List.mem_map.mp hy
      exact ⟨c, rfl⟩, rfl, none, none, none, none, none, none, none, none, none, none, none, none, none, none, none, rfl⟩ ?_ ?_
    · rintro env' st' h1 ⟨_, _, w2, w3, w4, w5, w6, w7, w8, w9, w10, w11, w12, w13, w14, w15, w16, rfl⟩
      exact ⟨w2, w3, w4, w5, w6, w7, w8, w9, w10, w11, w12, w13, w14, w15, w16, st', h1⟩
    · rintro z ys env' st' ⟨h1', h2', w2, w3, w4, w5, w6, w7, w8, w9, w10, w11, w12, w13, w14, w15, w16, rfl⟩
      obtain ⟨c, rfl⟩ := h1' z (by simp)
      obtain ⟨u3, u4, u5, u6, u7, u8, u9, u10, u11, u12, u13, u14, u15, u16, st2, o2, a2⟩ := cell_step (k := 229) (by omega) oddL_ok st' h2' e0 w2 c w3 w4 w5 w6 w7 w8 w9 w10 w11 w12 w13 w14 w15 w16
      exact ⟨_, _, a2, same_none _ _, fun y hy => h1' y (by simp [hy]), o2, _, _, _, _, _, _, _, _, _, _, _, _, _, _, _, rfl⟩
  obtain ⟨w2, w3, w4, w5, w6, w7, w8, w9, w10, w11, w12, w13, w14, w15, w16, st', lp⟩ := lp
  rw [calls_at (by omega) (fd := f41) rfl]
  refine callF_x (ex := []) (ex' := st') (rs' := [.d (.list (ns.map .int))]) (env := [some (.d (.list (ns.map .int))), none, none, none, none, none, none, none, none, none, none, none, none, none, none, none, none]) rfl (by simp) rfl rfl ?_
  rw [← he0]
  have hs : evI (calls tb 229) (.of (.slc (.prim .add (.cons (.lst (.cons (.dat (.int 7190013)) .nil)) (.cons (.var 0) .nil))) .no (.yes (.dat (.int 6))))) [e0, some (.o 0), none, none, none, none, none, none, none, none, none, none, none, none, none, none, none] [.lst oddL] = .ok (((7190013 :: ns).take 6).map .int, none) [.lst oddL] := by
    refine evI_new ?_
    have h1 : primF .add [.f (.lst [.int 7190013]), .d (.list (ns.map .int))] [.lst oddL] = .ok (.f (.lst (.int 7190013 :: ns.map .int))) [.lst oddL] := by
      simp only [primF, addF, catL, lstOf_f, lstOf_dl]
      rw [if_pos (by simp; omega)]
      rfl
    have h2 : slcF (.f (.lst (.int 7190013 :: ns.map .int))) none (some ((6 : Nat) : Int)) [.lst oddL] = .ok (.f (.lst (((7190013 :: ns).take 6).map .int))) [.lst oddL] := by
      simp only [slcF, lstOf_f, cut_nat, List.map_take, List.map_cons]
    simp only [evE_slc, evE_prim, evEs_cons, evE_lst, evE_dat, evE_var, he0, List.getElem?_cons_zero, evEs_nil, rs_ok, toDs, toD_d, h1, evO_no, evO_yes]
    exact h2
  have ef : f41.body = .cons (.asg 1 (.lst (.cons (.dat .none) (.cons (.dat (.bool true)) (.cons (.dat (.int 0)) (.cons (.dat (.str "")) (.cons (.dat (.str "a")) (.cons (.tup .nil) (.cons (.lst .nil) (.cons (.tup (.cons (.dat (.str "var")) (.cons (.dat (.str "X")) (.cons (.dat (.str "a")) .nil)))) (.cons (.tup (.cons (.tup (.cons (.dat (.str "var")) (.cons (.dat (.str "X")) (.cons (.dat (.str "a")) .nil)))) (.cons (.tup (.cons (.dat (.str "var")) (.cons (.dat (.str "X")) (.cons (.dat (.str "a")) .nil)))) .nil))) (.cons (.tup (.cons (.dat (.str "app")) (.cons (.dat (.str "a")) (.cons (.tup .nil) .nil)))) .nil)))))))))))) (.cons (.for (.name 2) (.of (.slc (.prim .add (.cons (.lst (.cons (.dat (.int 7190013)) .nil)) (.cons (.var 0) .nil))) .no (.yes (.dat (.int 6))))) f41_b0) (.cons (.ret (.dat (.bool true))) .nil)) := rfl
  have x0 : exS (calls tb 229) (.asg 1 (.lst (.cons (.dat .none) (.cons (.dat (.bool true)) (.cons (.dat (.int 0)) (.cons (.dat (.str "")) (.cons (.dat (.str "a")) (.cons (.tup .nil) (.cons (.lst .nil) (.cons (.tup (.cons (.dat (.str "var")) (.cons (.dat (.str "X")) (.cons (.dat (.str "a")) .nil)))) (.cons (.tup (.cons (.tup (.cons (.dat (.str "var")) (.cons (.dat (.str "X")) (.cons (.dat (.str "a")) .nil)))) (.cons (.tup (.cons (.dat (.str "var")) (.cons (.dat (.str "X")) (.cons (.dat (.str "a")) .nil)))) .nil))) (.cons (.tup (.cons (.dat (.str "app")) (.cons (.dat (.str "a")) (.cons (.tup .nil) .nil)))) .nil)))))))))))) [e0, none, none, none, none, none, none, none, none, none, none, none, none, none, none, none, none] [] = .next [e0, some (.o 0), none, none, none, none, none, none, none, none, none, none, none, none, none, none, none] [.lst oddL] := by
    refine (exS_asg_f (st' := []) (b := .lst oddL) ?_).trans rfl
    simp only [evE_lst, evEs_cons, evE_dat, evE_tup, evEs_nil, rs_ok, toDs, toD_d, toD_f]
    rfl
  rw [ef, List.append_nil, go_next x0, exSs_cons, exS_for, hs, fl_ok, lp]
  simp
end K02

namespace Hd
open PySem PySem.Spec PyProof.Rows L2
abbrev prg : Program := PySem.Challenge.pw_rulesmeet_k02_substitutions
def top (i : Nat) : Stmt := prg.main.body.getD i (.Pass ⟨0, 0, 0, 0⟩)
def dd (i : Nat) (x : Str) (ps N : List Str) (dn : List Str := []) : Ev.DE := ⟨⟨(x, none), x, x, defArgs (top i), defBody (top i), defScope (top i), [], []⟩, ps, N, dn⟩
def ds : List Ev.DE := [
  dd 9 "is_row" ["value", "count"] ["value", "count"],
  dd 10 "is_word" ["value"] ["value", "sign"],
  dd 11 "is_variable_name" ["value"] ["value", "sign"],
  dd 12 "ascends" ["values"] ["values", "one", "other"],
  dd 14 "row_of" ["signature", "name"] ["signature", "name", "row"],
  dd 15 "sorts_of" ["signature"] ["signature", "row", "sort"],
  dd 16 "size_of" ["term"] ["term", "part"],
  dd 17 "least_terms" ["signature"] ["signature", "best", "more", "name", "sorts", "sort", "one", "term", "told"],
  dd 18 "is_signature_row" ["value"] ["value", "sort"],
  dd 19 "fits_signature" ["value"] ["value", "row", "best", "sort"],
  dd 21 "is_variable" ["signature", "value"] ["signature", "value"],
  dd 22 "sort_in" ["signature", "value"] ["signature", "value", "row", "part", "sort"],
  dd 23 "put_in" ["term", "table"] ["term", "table", "part"] ["table"],
  dd 24 "fits_substitution" ["signature", "value"] ["signature", "value", "pair", "one", "term"],
  dd 25 "told_by" ["table"] ["table", "one", "term"] ["table"],
  dd 26 "composed_of" ["substitution", "other"] ["substitution", "other", "first", "second", "table", "one"] ["first", "second", "table"],
  dd 28 "check_signature" ["signature"] ["signature"],
  dd 29 "check_term" ["signature", "term"] ["signature", "term"],
  dd 30 "check_next_term" ["signature", "term"] ["signature", "term"],
  dd 31 "check_substitution" ["signature", "substitution"] ["signature", "substitution"],
  dd 33 "is_substitution" ["signature", "value"] ["signature", "value"],
  dd 34 "applied" ["signature", "term", "substitution"] ["signature", "term", "substitution"],
  dd 35 "composed" ["signature", "substitution", "other_substitution"] ["signature", "substitution", "other_substitution"],
  dd 37 "_law_deck" ["cell"] ["cell"],
  dd 38 "_law_draw" ["deck", "many"] ["deck", "many", "found"],
  dd 39 "_law_pick" ["deck", "row"] ["deck", "row"],
  dd 40 "_law_some" ["deck", "row", "many"] ["deck", "row", "many", "left", "found", "turn"],
  dd 41 "_law_same" ["found", "due"] ["found", "due", "k"],
  dd 42 "_law_word" ["deck", "taken"] ["deck", "taken", "letters", "word", "turn", "one"],
  dd 43 "_law_signature" ["deck", "kinds", "more"] ["deck", "kinds", "more", "words", "names", "rows", "turn", "sort", "inner", "k"],
  dd 44 "_law_sorts" ["signature"] ["signature", "row"],
  dd 45 "_law_variables" ["deck", "signature", "many"] ["deck", "signature", "many", "sorts", "name"],
  dd 46 "_law_term" ["deck", "signature", "sort", "room", "known"] ["deck", "signature", "sort", "room", "known", "some", "one", "rows", "row", "wide", "parts", "inner"],
  dd 47 "_law_put" ["term", "table"] ["term", "table", "part"] ["table"],
  dd 48 "_law_told" ["table"] ["table", "one"] ["table"],
  dd 49 "_law_is_name" ["value"] ["value", "sign"],
  dd 50 "_law_sort_in" ["signature", "value"] ["signature", "value", "is_right", "rows", "row", "part"],
  dd 51 "_law_bent" ["deck", "value", "odd"] ["deck", "value", "odd", "k", "way"],
  dd 52 "_law_fits_told" ["signature", "value"] ["signature", "value", "pair", "one", "term", "sort", "ones", "k"],
  dd 53 "_law_words_of" ["signature", "term", "one", "two"] ["signature", "term", "one", "two", "words", "which", "word"],
  dd 54 "_law_drawn" ["deck", "signature", "known"] ["deck", "signature", "known", "table", "one"] ["table"],
  dd 55 "law" ["script"] ["script", "odd", "cell", "deck", "signature", "known", "first", "second", "one", "two", "turn", "term", "made", "bad", "is_right", "due", "variable"] ["due"]]
def pr : Ev.Prg := ⟨ds, [("is_substitution", 1), ("applied", 2), ("composed", 2)], [("LETTERS", "abcdefghijklmnopqrstuvwxyz"), ("CAPITALS", "ABCDEFGHIJKLMNOPQRSTUVWXYZ"), ("DIGITS", "0123456789")], ["InvalidSignature", "InvalidTerm", "InvalidSubstitution"], [[0], [1], [2]], ["ValueError", "all", "tuple", "int", "range", "isinstance", "bool", "sorted", "str", "dict", "max", "list", "min", "set", "len", "sum", "zip"]⟩
def loose0 : List Str := ["RuleError", "InvalidSignature", "InvalidTerm", "InvalidSubstitution", "LETTERS", "CAPITALS", "DIGITS", "is_row", "is_word", "is_variable_name", "ascends", "row_of", "sorts_of", "size_of", "least_terms", "is_signature_row", "fits_signature", "is_variable", "sort_in", "put_in", "fits_substitution", "told_by", "composed_of", "check_signature", "check_term", "check_next_term", "check_substitution", "is_substitution", "applied", "composed"]
def loose1 : List Str := ["_law_deck", "_law_draw", "_law_pick", "_law_some", "_law_same", "_law_word", "_law_signature", "_law_sorts", "_law_variables", "_law_term", "_law_put", "_law_told", "_law_is_name", "_law_sort_in", "_law_bent", "_law_fits_told", "_law_words_of", "_law_drawn"]
def loose : List Str := loose0 ++ loose1


theorem k0 : Ev.ChkD pr (dd 9 "is_row" ["value", "count"] ["value", "count"]) f0 := ⟨rfl, rfl, by kernel_rfl, by decide +kernel, rfl, rfl, rfl, fun _ _ _ _ _ _ us hl => (match us, hl with | [_, _], _ => rfl), [], by decide +kernel, .nil⟩
theorem k1 : Ev.ChkD pr (dd 10 "is_word" ["value"] ["value", "sign"]) f1 := ⟨rfl, rfl, by kernel_rfl, by decide +kernel, rfl, rfl, rfl, fun _ _ _ _ _ _ us hl => (match us, hl with | [_], _ => rfl), [], by decide +kernel, .nil⟩
theorem k2 : Ev.ChkD pr (dd 11 "is_variable_name" ["value"] ["value", "sign"]) f2 := ⟨rfl, rfl, by kernel_rfl, by decide +kernel, rfl, rfl, rfl, fun _ _ _ _ _ _ us hl => (match us, hl with | [_], _ => rfl), [], by decide +kernel, .nil⟩
theorem k3 : Ev.ChkD pr (dd 12 "ascends" ["values"] ["values", "one", "other"]) f3 := ⟨rfl, rfl, by kernel_rfl, by decide +kernel, rfl, rfl, rfl, fun _ _ _ _ _ _ us hl => (match us, hl with | [_], _ => rfl), [], by decide +kernel, .nil⟩
theorem k4 : Ev.ChkD pr (dd 14 "row_of" ["signature", "name"] ["signature", "name", "row"]) f4 := ⟨rfl, rfl, by kernel_rfl, by decide +kernel, rfl, rfl, rfl, fun _ _ _ _ _ _ us hl => (match us, hl with | [_, _], _ => rfl), [], by decide +kernel, .nil⟩
theorem k5 : Ev.ChkD pr (dd 15 "sorts_of" ["signature"] ["signature", "row", "sort"]) f5 := ⟨rfl, rfl, by kernel_rfl, by decide +kernel, rfl, rfl, rfl, fun _ _ _ _ _ _ us hl => (match us, hl with | [_], _ => rfl), [], by decide +kernel, .nil⟩
theorem k6 : Ev.ChkD pr (dd 16 "size_of" ["term"] ["term", "part"]) f6 := ⟨rfl, rfl, by kernel_rfl, by decide +kernel, rfl, rfl, rfl, fun _ _ _ _ _ _ us hl => (match us, hl with | [_], _ => rfl), [], by decide +kernel, .nil⟩
theorem k7 : Ev.ChkD pr (dd 17 "least_terms" ["signature"] ["signature", "best", "more", "name", "sorts", "sort", "one", "term", "told"]) f7 := ⟨rfl, rfl, by kernel_rfl, by decide +kernel, rfl, rfl, rfl, fun _ _ _ _ _ _ us hl => (match us, hl with | [_], _ => rfl), [], by decide +kernel, .nil⟩
theorem k8 : Ev.ChkD pr (dd 18 "is_signature_row" ["value"] ["value", "sort"]) f8 := ⟨rfl, rfl, by kernel_rfl, by decide +kernel, rfl, rfl, rfl, fun _ _ _ _ _ _ us hl => (match us, hl with | [_], _ => rfl), [], by decide +kernel, .nil⟩
theorem k9 : Ev.ChkD pr (dd 19 "fits_signature" ["value"] ["value", "row", "best", "sort"]) f9 := ⟨rfl, rfl, by kernel_rfl, by decide +kernel, rfl, rfl, rfl, fun _ _ _ _ _ _ us hl => (match us, hl with | [_], _ => rfl), [], by decide +kernel, .nil⟩
theorem k10 : Ev.ChkD pr (dd 21 "is_variable" ["signature", "value"] ["signature", "value"]) f10 := ⟨rfl, rfl, by kernel_rfl, by decide +kernel, rfl, rfl, rfl, fun _ _ _ _ _ _ us hl => (match us, hl with | [_, _], _ => rfl), [], by decide +kernel, .nil⟩
theorem k11 : Ev.ChkD pr (dd 22 "sort_in" ["signature", "value"] ["signature", "value", "row", "part", "sort"]) f11 := ⟨rfl, rfl, by kernel_rfl, by decide +kernel, rfl, rfl, rfl, fun _ _ _ _ _ _ us hl => (match us, hl with | [_, _], _ => rfl), [], by decide +kernel, .nil⟩
theorem k12 : Ev.ChkD pr (dd 23 "put_in" ["term", "table"] ["term", "table", "part"] ["table"]) f12 := ⟨rfl, rfl, by kernel_rfl, by decide +kernel, rfl, rfl, rfl, fun _ _ _ _ _ _ us hl => (match us, hl with | [_, _], _ => rfl), [], by decide +kernel, .nil⟩
theorem k13 : Ev.ChkD pr (dd 24 "fits_substitution" ["signature", "value"] ["signature", "value", "pair", "one", "term"]) f13 := ⟨rfl, rfl, by kernel_rfl, by decide +kernel, rfl, rfl, rfl, fun _ _ _ _ _ _ us hl => (match us, hl with | [_, _], _ => rfl), [], by decide +kernel, .nil⟩
theorem k14 : Ev.ChkD pr (dd 25 "told_by" ["table"] ["table", "one", "term"] ["table"]) f14 := ⟨rfl, rfl, by kernel_rfl, by decide +kernel, rfl, rfl, rfl, fun _ _ _ _ _ _ us hl => (match us, hl with | [_], _ => rfl), [], by decide +kernel, .nil⟩
theorem k15 : Ev.ChkD pr (dd 26 "composed_of" ["substitution", "other"] ["substitution", "other", "first", "second", "table", "one"] ["first", "second", "table"]) f15 := ⟨rfl, rfl, by kernel_rfl, by decide +kernel, rfl, rfl, rfl, fun _ _ _ _ _ _ us hl => (match us, hl with | [_, _], _ => rfl), [], by decide +kernel, .nil⟩
theorem k16 : Ev.ChkD pr (dd 28 "check_signature" ["signature"] ["signature"]) f16 := ⟨rfl, rfl, by kernel_rfl, by decide +kernel, rfl, rfl, rfl, fun _ _ _ _ _ _ us hl => (match us, hl with | [_], _ => rfl), [], by decide +kernel, .nil⟩
theorem k17 : Ev.ChkD pr (dd 29 "check_term" ["signature", "term"] ["signature", "term"]) f17 := ⟨rfl, rfl, by kernel_rfl, by decide +kernel, rfl, rfl, rfl, fun _ _ _ _ _ _ us hl => (match us, hl with | [_, _], _ => rfl), [], by decide +kernel, .nil⟩
theorem k18 : Ev.ChkD pr (dd 30 "check_next_term" ["signature", "term"] ["signature", "term"]) f18 := ⟨rfl, rfl, by kernel_rfl, by decide +kernel, rfl, rfl, rfl, fun _ _ _ _ _ _ us hl => (match us, hl with | [_, _], _ => rfl), [], by decide +kernel, .nil⟩
theorem k19 : Ev.ChkD pr (dd 31 "check_substitution" ["signature", "substitution"] ["signature", "substitution"]) f19 := ⟨rfl, rfl, by kernel_rfl, by decide +kernel, rfl, rfl, rfl, fun _ _ _ _ _ _ us hl => (match us, hl with | [_, _], _ => rfl), [], by decide +kernel, .nil⟩
theorem k20 : Ev.ChkD pr (dd 33 "is_substitution" ["signature", "value"] ["signature", "value"]) f20 := ⟨rfl, rfl, by kernel_rfl, by decide +kernel, rfl, rfl, rfl, fun _ _ _ _ _ _ us hl => (match us, hl with | [_, _], _ => rfl), [1], by decide +kernel, .cons (fun _ _ _ _ _ _ us ws h1 h2 => (match us, h1, ws, h2 with | [_], _, [_], _ => rfl)) (.nil)⟩
theorem k21 : Ev.ChkD pr (dd 34 "applied" ["signature", "term", "substitution"] ["signature", "term", "substitution"]) f21 := ⟨rfl, rfl, by kernel_rfl, by decide +kernel, rfl, rfl, rfl, fun _ _ _ _ _ _ us hl => (match us, hl with | [_, _, _], _ => rfl), [2], by decide +kernel, .cons (fun _ _ _ _ _ _ us ws h1 h2 => (match us, h1, ws, h2 with | [_, _], _, [_], _ => rfl)) (.nil)⟩
theorem k22 : Ev.ChkD pr (dd 35 "composed" ["signature", "substitution", "other_substitution"] ["signature", "substitution", "other_substitution"]) f22 := ⟨rfl, rfl, by kernel_rfl, by decide +kernel, rfl, rfl, rfl, fun _ _ _ _ _ _ us hl => (match us, hl with | [_, _, _], _ => rfl), [2], by decide +kernel, .cons (fun _ _ _ _ _ _ us ws h1 h2 => (match us, h1, ws, h2 with | [_, _], _, [_], _ => rfl)) (.nil)⟩
theorem k23 : Ev.ChkD pr (dd 37 "_law_deck" ["cell"] ["cell"]) f23 := ⟨rfl, rfl, by kernel_rfl, by decide +kernel, rfl, rfl, rfl, fun _ _ _ _ _ _ us hl => (match us, hl with | [_], _ => rfl), [], by decide +kernel, .nil⟩
theorem k24 : Ev.ChkD pr (dd 38 "_law_draw" ["deck", "many"] ["deck", "many", "found"]) f24 := ⟨rfl, rfl, by kernel_rfl, by decide +kernel, rfl, rfl, rfl, fun _ _ _ _ _ _ us hl => (match us, hl with | [_, _], _ => rfl), [], by decide +kernel, .nil⟩
theorem k25 : Ev.ChkD pr (dd 39 "_law_pick" ["deck", "row"] ["deck", "row"]) f25 := ⟨rfl, rfl, by kernel_rfl, by decide +kernel, rfl, rfl, rfl, fun _ _ _ _ _ _ us hl => (match us, hl with | [_, _], _ => rfl), [], by decide +kernel, .nil⟩
theorem k26 : Ev.ChkD pr (dd 40 "_law_some" ["deck", "row", "many"] ["deck", "row", "many", "left", "found", "turn"]) f26 := ⟨rfl, rfl, by kernel_rfl, by decide +kernel, rfl, rfl, rfl, fun _ _ _ _ _ _ us hl => (match us, hl with | [_, _, _], _ => rfl), [], by decide +kernel, .nil⟩
theorem k27 : Ev.ChkD pr (dd 41 "_law_same" ["found", "due"] ["found", "due", "k"]) f27 := ⟨rfl, rfl, by kernel_rfl, by decide +kernel, rfl, rfl, rfl, fun _ _ _ _ _ _ us hl => (match us, hl with | [_, _], _ => rfl), [], by decide +kernel, .nil⟩
theorem k28 : Ev.ChkD pr (dd 42 "_law_word" ["deck", "taken"] ["deck", "taken", "letters", "word", "turn", "one"]) f28 := ⟨rfl, rfl, by kernel_rfl, by decide +kernel, rfl, rfl, rfl, fun _ _ _ _ _ _ us hl => (match us, hl with | [_, _], _ => rfl), [], by decide +kernel, .nil⟩
theorem k29 : Ev.ChkD pr (dd 43 "_law_signature" ["deck", "kinds", "more"] ["deck", "kinds", "more", "words", "names", "rows", "turn", "sort", "inner", "k"]) f29 := ⟨rfl, rfl, by kernel_rfl, by decide +kernel, rfl, rfl, rfl, fun _ _ _ _ _ _ us hl => (match us, hl with | [_, _, _], _ => rfl), [], by decide +kernel, .nil⟩
theorem k30 : Ev.ChkD pr (dd 44 "_law_sorts" ["signature"] ["signature", "row"]) f30 := ⟨rfl, rfl, by kernel_rfl, by decide +kernel, rfl, rfl, rfl, fun _ _ _ _ _ _ us hl => (match us, hl with | [_], _ => rfl), [], by decide +kernel, .nil⟩
theorem k31 : Ev.ChkD pr (dd 45 "_law_variables" ["deck", "signature", "many"] ["deck", "signature", "many", "sorts", "name"]) f31 := ⟨rfl, rfl, by kernel_rfl, by decide +kernel, rfl, rfl, rfl, fun _ _ _ _ _ _ us hl => (match us, hl with | [_, _, _], _ => rfl), [], by decide +kernel, .nil⟩
theorem k32 : Ev.ChkD pr (dd 46 "_law_term" ["deck", "signature", "sort", "room", "known"] ["deck", "signature", "sort", "room", "known", "some", "one", "rows", "row", "wide", "parts", "inner"]) f32 := ⟨rfl, rfl, by kernel_rfl, by decide +kernel, rfl, rfl, rfl, fun _ _ _ _ _ _ us hl => (match us, hl with | [_, _, _, _, _], _ => rfl), [], by decide +kernel, .nil⟩
theorem k33 : Ev.ChkD pr (dd 47 "_law_put" ["term", "table"] ["term", "table", "part"] ["table"]) f33 := ⟨rfl, rfl, by kernel_rfl, by decide +kernel, rfl, rfl, rfl, fun _ _ _ _ _ _ us hl => (match us, hl with | [_, _], _ => rfl), [], by decide +kernel, .nil⟩
theorem k34 : Ev.ChkD pr (dd 48 "_law_told" ["table"] ["table", "one"] ["table"]) f34 := ⟨rfl, rfl, by kernel_rfl, by decide +kernel, rfl, rfl, rfl, fun _ _ _ _ _ _ us hl => (match us, hl with | [_], _ => rfl), [], by decide +kernel, .nil⟩
theorem k35 : Ev.ChkD pr (dd 49 "_law_is_name" ["value"] ["value", "sign"]) f35 := ⟨rfl, rfl, by kernel_rfl, by decide +kernel, rfl, rfl, rfl, fun _ _ _ _ _ _ us hl => (match us, hl with | [_], _ => rfl), [], by decide +kernel, .nil⟩
theorem k36 : Ev.ChkD pr (dd 50 "_law_sort_in" ["signature", "value"] ["signature", "value", "is_right", "rows", "row", "part"]) f36 := ⟨rfl, rfl, by kernel_rfl, by decide +kernel, rfl, rfl, rfl, fun _ _ _ _ _ _ us hl => (match us, hl with | [_, _], _ => rfl), [], by decide +kernel, .nil⟩
theorem k37 : Ev.ChkD pr (dd 51 "_law_bent" ["deck", "value", "odd"] ["deck", "value", "odd", "k", "way"]) f37 := ⟨rfl, rfl, by kernel_rfl, by decide +kernel, rfl, rfl, rfl, fun _ _ _ _ _ _ us hl => (match us, hl with | [_, _, _], _ => rfl), [], by decide +kernel, .nil⟩
theorem k38 : Ev.ChkD pr (dd 52 "_law_fits_told" ["signature", "value"] ["signature", "value", "pair", "one", "term", "sort", "ones", "k"]) f38 := ⟨rfl, rfl, by kernel_rfl, by decide +kernel, rfl, rfl, rfl, fun _ _ _ _ _ _ us hl => (match us, hl with | [_, _], _ => rfl), [], by decide +kernel, .nil⟩
theorem k39 : Ev.ChkD pr (dd 53 "_law_words_of" ["signature", "term", "one", "two"] ["signature", "term", "one", "two", "words", "which", "word"]) f39 := ⟨rfl, rfl, by kernel_rfl, by decide +kernel, rfl, rfl, rfl, fun _ _ _ _ _ _ us hl => (match us, hl with | [_, _, _, _], _ => rfl), [], by decide +kernel, .nil⟩
theorem k40 : Ev.ChkD pr (dd 54 "_law_drawn" ["deck", "signature", "known"] ["deck", "signature", "known", "table", "one"] ["table"]) f40 := ⟨rfl, rfl, by kernel_rfl, by decide +kernel, rfl, rfl, rfl, fun _ _ _ _ _ _ us hl => (match us, hl with | [_, _, _], _ => rfl), [], by decide +kernel, .nil⟩
theorem k41 : Ev.ChkD pr (dd 55 "law" ["script"] ["script", "odd", "cell", "deck", "signature", "known", "first", "second", "one", "two", "turn", "term", "made", "bad", "is_right", "due", "variable"] ["due"]) f41 := ⟨rfl, rfl, by kernel_rfl, by decide +kernel, rfl, rfl, rfl, fun _ _ _ _ _ _ us hl => (match us, hl with | [_], _ => rfl), [], by decide +kernel, .nil⟩
theorem chk : Ev.L2P (Ev.ChkD pr) pr.ds tb := .cons k0 (.cons k1 (.cons k2 (.cons k3 (.cons k4 (.cons k5 (.cons k6 (.cons k7 (.cons k8 (.cons k9 (.cons k10 (.cons k11 (.cons k12 (.cons k13 (.cons k14 (.cons k15 (.cons k16 (.cons k17 (.cons k18 (.cons k19 (.cons k20 (.cons k21 (.cons k22 (.cons k23 (.cons k24 (.cons k25 (.cons k26 (.cons k27 (.cons k28 (.cons k29 (.cons k30 (.cons k31 (.cons k32 (.cons k33 (.cons k34 (.cons k35 (.cons k36 (.cons k37 (.cons k38 (.cons k39 (.cons k40 (.cons k41 (.nil))))))))))))))))))))))))))))))))))))))))))
abbrev R : PySem.W.OpenRow := PySem.W.OpenLaw.row PySem.Challenge.rw_rulesmeet_k02_substitutions
abbrev hk : PySem.W.Hook := He.hookD 4 pr.fa pr.fn
def ob (s : PySem.W.SharedT) : He.AlD := He.obsDG 4 pr.fa pr.fn (HandSHeadRun.getT s)
theorem ob_eq (s : PySem.W.SharedT) : ob s = hk.obs s.abs := He.obsDG_eq (HandSHeadRun.getT_eq s)
theorem run (w : World) : HandSHeadRun.RunEq R (PySem.W.view R.prog [55]) hk ob 6000 loose w := by
  intro os
  kernel_rfl
end Hd
open PySem PySem.W PySem.Calls PyProof.Rows
theorem PySem.Challenge.cw_rulesmeet_k02_substitutions_core (k : Nat) (hk : k ≤ 230) (hlaw : ∀ ns : List Int, ns.length ≤ 63 → ∃ st, Ev.calls Hd.tb k 41 [.d (.list (ns.map .int))] [] = .ok (.d (.bool true)) st) : PySem.Challenge.rw_rulesmeet_k02_substitutions.Holds := by
  w_on; o_law
  refine HandSHeadRun.head_any (r := OpenLaw.row PySem.Challenge.rw_rulesmeet_k02_substitutions) (q := view (OpenLaw.row PySem.Challenge.rw_rulesmeet_k02_substitutions).prog [55]) (H := Hd.hk) (ob := Hd.ob) (M := 6000) (loose := Hd.loose) (d := HandSHeadRun.topDef (OpenLaw.row PySem.Challenge.rw_rulesmeet_k02_substitutions).prog 55) (kwd := []) Hd.ob_eq
    (by kernel_rfl) (fun s => by kernel_rfl) Hd.run (by kernel_rfl) (by kernel_rfl) (by kernel_rfl) (by rfl) (by first | assumption | decide +kernel) (by decide +kernel) ⟨rfl, rfl, rfl, rfl, rfl, by decide +kernel⟩ ?hw ?hc
  case hw => w_witness2
  case hc =>
    refine L2.walk_ofE (l := PySem.Challenge.rw_rulesmeet_k02_substitutions) (n := 63) (k := k) (x := "script") (CX := Ev.CXw (PySem.Challenge.rw_rulesmeet_k02_substitutions).prog) rfl (by decide) (by kernel_rfl) (Ev.room_top hk) ?F Ev.cxw_end
    intro w mg fa h Y G hmg0
    obtain ⟨K, KX, c⟩ := Y
    have hmg : mg ("law" : PySem.Str) = some (.ref fa) := by
      have e : (HandSHeadRun.topDef (OpenLaw.row PySem.Challenge.rw_rulesmeet_k02_substitutions).prog 55).name = ("law" : PySem.Str) := by kernel_rfl
      rw [← e]
      exact hmg0
    exact Ev.law_facts (i := 41) (d := Hd.dd 55 "law" ["script"] ["script", "odd", "cell", "deck", "signature", "known", "first", "second", "one", "two", "turn", "term", "made", "bad", "is_right", "due", "variable"] ["due"]) (x := "law") (y := "script") KX G hmg c Hd.chk (by decide) rfl rfl rfl (by decide) hlaw


theorem PySem.Challenge.cw_rulesmeet_k02_substitutions_holds : PySem.Challenge.rw_rulesmeet_k02_substitutions.Holds := by
  exact PySem.Challenge.cw_rulesmeet_k02_substitutions_core 230 (by decide) fun ns h => K02.law_ok ns h
