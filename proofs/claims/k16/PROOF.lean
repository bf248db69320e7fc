import PyProof.Rows.All
import Wide.All
import OpenK.AllK
import Wide.FinOn
import HandS.ForMost
import HandS.Wide
import HandS.TupAny
import HandS.Style
import HandS.IsInst
import HandS.SortInts
import HandS.Codes
import HandS.Zip
import HandS.NoneIn
import HandS.ForExc
import HandS.More
import KE.GoesNew
import KE.GoesEnum
import HandS.TupMul
import PyProof.Rows.SetFrom
import KE.KStateDown
import HandS.Defaults
import HandS.Head0
import HandS.Head1
import HandS.Head2
import HandS.HeadEnd
import HandS.HeadHook1
import HandS.HeadHook2
import HandS.Base
import HandS.Call
import HandS.Ends
import HandS.WordsExc
import HandS.Words
import HandS.RaiseMore
import PyProof.ReprRoads
import PyProof.ReprLen
import PyProof.ReprBulk
import PySem.Challenge.RW_hushgrain_k16_whole_lattice_identities
set_option Elab.async false
set_option linter.all false
set_option maxRecDepth 100000
set_option maxHeartbeats 0
/-! The mirror layer: data values, the store, the monad, the relation to the abstract heap, readings. -/
namespace Mir
open PySem PySem.Spec PyProof.Rows L2

/-- data: what a Python value is, lists that are never changed being values -/
inductive D where
  | non | bl (b : Bool) | int (i : Int) | str (x : Str) | tup (xs : List D) | lst (xs : List D) | obj (n : Nat)
  /-- the script itself -/
  | scr (ns : List Int)
  deriving Inhabited
/-- objects that change -/
inductive O where
  | lst (xs : List D)
  | dic (kvs : List (Key × D))
  | ins (c : Nat) (fs : List (Str × D))
  /-- no longer used -/
  | dead
abbrev Sto := List O
/-- an exception of an own class: its number, its fields -/
structure Exn where
  c : Nat
  fs : List (Str × D)
inductive Res (α : Type) where
  | ok (a : α) (st : Sto) | exc (e : Exn) (st : Sto) | bad
def M (α : Type) : Type := Sto → Res α
def Res.andThen {α β : Type} (r : Res α) (f : α → M β) : Res β := match r with
  | .ok a st => f a st
  | .exc e st => .exc e st
  | .bad => .bad
instance : Monad M where
  pure a := fun st => .ok a st
  bind m f := fun st => (m st).andThen f
def bad {α : Type} : M α := fun _ => .bad
theorem bind_def {α β : Type} (m : M α) (f : α → M β) (st : Sto) : (m >>= f) st = (m st).andThen f := rfl
theorem pure_def {α : Type} (a : α) (st : Sto) : (pure a : M α) st = .ok a st := rfl
abbrev Env := List (Option D)
/-- where the store's objects stand; none: it is no longer used -/
abbrev Ix := List (Option Addr)

/-! ### the relation -/
def SqI (ι : Ix) (H : Hp) (a : Addr) (xs : List V) : Prop := Rd H a (.lst xs) ∧ some a ∉ ι
def SqJ (K : PySem.W.Frag) (ι : Ix) (H : Hp) (a : Addr) (xs : List V) : Prop :=
  (Rd H a (.tup xs) ∧ some a ∉ ι) ∨
    ∃ (o : Obj) (its : Array Value) (n : Nat), K.lookup a = some o ∧ o.cls = .type "tuple" ∧ o.data = .seq its n ∧ its.size ≤ sizeLine ∧ Vals xs its.toList
/-- the script's list: it may stand in the written part -/
def SqW (K : PySem.W.Frag) (ι : Ix) (H : Hp) (a : Addr) (xs : List V) : Prop :=
  (Rd H a (.lst xs) ∧ some a ∉ ι) ∨
    ∃ (o : Obj) (its : Array Value) (n : Nat), K.lookup a = some o ∧ o.cls = .type "list" ∧ o.dict = none ∧ o.data = .seq its n ∧ its.size ≤ sizeLine ∧ Vals xs its.toList
theorem SqW.l {K : PySem.W.Frag} {ι : Ix} {H : Hp} {a : Addr} {xs : List V} (h : SqW K ι H a xs) : SqL K H a xs := h.imp (fun z => z.1) id
theorem SqI.l {K : PySem.W.Frag} {ι : Ix} {H : Hp} {a : Addr} {xs : List V} (h : SqI ι H a xs) : SqL K H a xs := .inl h.1
theorem SqJ.t {K : PySem.W.Frag} {ι : Ix} {H : Hp} {a : Addr} {xs : List V} (h : SqJ K ι H a xs) : SqT K H a xs := h.imp (fun z => z.1) id

mutual
inductive Rp (K : PySem.W.Frag) (ι : Ix) (H : Hp) : V → D → Prop
  | non : Rp K ι H .non .non
  | bl (b : Bool) : Rp K ι H (.bl b) (.bl b)
  | int (i : Int) : Rp K ι H (.int i) (.int i)
  | str (x : Str) : Rp K ι H (.str x) (.str x)
  | tup {a : Addr} {xs : List V} {ds : List D} : SqJ K ι H a xs → Rps K ι H xs ds → Rp K ι H (.ref a) (.tup ds)
  | lst {a : Addr} {xs : List V} {ds : List D} : SqI ι H a xs → Rps K ι H xs ds → Rp K ι H (.ref a) (.lst ds)
  | obj {a : Addr} {n : Nat} : ι[n]? = some (some a) → Rp K ι H (.ref a) (.obj n)
  | dead {v : V} {n : Nat} : ι[n]? = some none → Rp K ι H v (.obj n)
  | scr {a : Addr} {ns : List Int} : SqW K ι H a (ns.map V.int) → Rp K ι H (.ref a) (.scr ns)
inductive Rps (K : PySem.W.Frag) (ι : Ix) (H : Hp) : List V → List D → Prop
  | nil : Rps K ι H [] []
  | cons {v : V} {vs : List V} {d : D} {ds : List D} : Rp K ι H v d → Rps K ι H vs ds → Rps K ι H (v :: vs) (d :: ds)
end

/-- from (ι, H) to (ι', H'): objects are added, or no longer used; only the listed ones change -/
structure Stp (ι : Ix) (H : Hp) (ι' : Ix) (H' : Hp) : Prop where
  len : ι.length ≤ ι'.length
  pre : ∀ n, n < ι.length → ι'[n]? = ι[n]? ∨ ι'[n]? = some none
  new : ∀ a, some a ∈ ι' → some a ∉ ι → H a = none
  keep : ∀ a o, H a = some o → some a ∉ ι → H' a = some o
theorem Stp.refl (ι : Ix) (H : Hp) : Stp ι H ι H := ⟨Nat.le_refl _, fun _ _ => .inl rfl, fun a h n => absurd h n, fun _ _ h _ => h⟩
theorem Stp.out {ι ι' : Ix} {H H' : Hp} (s : Stp ι H ι' H') {a : Addr} {o : HO} (q : H a = some o) (n : some a ∉ ι) : some a ∉ ι' := fun h => by
  have := s.new a h n
  rw [q] at this
  cases this
theorem Stp.trans {ι ι1 ι2 : Ix} {H H1 H2 : Hp} (s : Stp ι H ι1 H1) (t : Stp ι1 H1 ι2 H2) : Stp ι H ι2 H2 where
  len := Nat.le_trans s.len t.len
  pre := fun n hn => by
    rcases t.pre n (Nat.lt_of_lt_of_le hn s.len) with h | h
    · rcases s.pre n hn with g | g
      · exact .inl (h.trans g)
      · exact .inr (h.trans g)
    · exact .inr h
  new := fun a h n => by
    by_cases h1 : some a ∈ ι1
    · exact s.new a h1 n
    · have e := t.new a h h1
      cases q : H a with
      | none => rfl
      | some o =>
        have := s.keep a o q n
        rw [e] at this
        cases this
  keep := fun a o q n => t.keep a o (s.keep a o q n) (s.out q n)
theorem Stp.get {ι ι' : Ix} {H H' : Hp} (s : Stp ι H ι' H') {n : Nat} {a : Addr} (q : ι[n]? = some (some a)) : ι'[n]? = some (some a) ∨ ι'[n]? = some none := by
  rcases s.pre n (List.getElem?_eq_some_iff.mp q).1 with h | h
  · exact .inl (h.trans q)
  · exact .inr h
theorem Stp.gone {ι ι' : Ix} {H H' : Hp} (s : Stp ι H ι' H') {n : Nat} (q : ι[n]? = some none) : ι'[n]? = some none := by
  rcases s.pre n (List.getElem?_eq_some_iff.mp q).1 with h | h
  · exact h.trans q
  · exact h
theorem SqI.step {ι ι' : Ix} {H H' : Hp} {a : Addr} {xs : List V} (s : Stp ι H ι' H') (h : SqI ι H a xs) : SqI ι' H' a xs := by
  rcases h with ⟨h | ⟨o, h⟩, n⟩
  · exact ⟨.inl (s.keep _ _ h n), s.out h n⟩
  · exact ⟨.inr ⟨o, s.keep _ _ h n⟩, s.out h n⟩
theorem SqJ.step {K : PySem.W.Frag} {ι ι' : Ix} {H H' : Hp} {a : Addr} {xs : List V} (s : Stp ι H ι' H') (h : SqJ K ι H a xs) : SqJ K ι' H' a xs := by
  rcases h with ⟨h | ⟨o, h⟩, n⟩ | h
  · exact .inl ⟨.inl (s.keep _ _ h n), s.out h n⟩
  · exact .inl ⟨.inr ⟨o, s.keep _ _ h n⟩, s.out h n⟩
  · exact .inr h
theorem SqW.step {K : PySem.W.Frag} {ι ι' : Ix} {H H' : Hp} {a : Addr} {xs : List V} (s : Stp ι H ι' H') (h : SqW K ι H a xs) : SqW K ι' H' a xs := by
  rcases h with ⟨h | ⟨o, h⟩, n⟩ | h
  · exact .inl ⟨.inl (s.keep _ _ h n), s.out h n⟩
  · exact .inl ⟨.inr ⟨o, s.keep _ _ h n⟩, s.out h n⟩
  · exact .inr h
mutual
theorem Rp.step {K : PySem.W.Frag} {ι ι' : Ix} {H H' : Hp} (s : Stp ι H ι' H') : ∀ {v : V} {d : D}, Rp K ι H v d → Rp K ι' H' v d
  | _, _, .non => .non
  | _, _, .bl b => .bl b
  | _, _, .int i => .int i
  | _, _, .str x => .str x
  | _, _, .tup h r => .tup (h.step s) (Rps.step s r)
  | _, _, .lst h r => .lst (h.step s) (Rps.step s r)
  | _, _, .obj h => (s.get h).elim .obj .dead
  | _, _, .dead h => .dead (s.gone h)
  | _, _, .scr h => .scr (h.step s)
theorem Rps.step {K : PySem.W.Frag} {ι ι' : Ix} {H H' : Hp} (s : Stp ι H ι' H') : ∀ {vs : List V} {ds : List D}, Rps K ι H vs ds → Rps K ι' H' vs ds
  | _, _, .nil => .nil
  | _, _, .cons r t => .cons (Rp.step s r) (Rps.step s t)
end
theorem Rps.length {K : PySem.W.Frag} {ι : Ix} {H : Hp} : ∀ {vs : List V} {ds : List D}, Rps K ι H vs ds → vs.length = ds.length
  | _, _, .nil => rfl
  | _, _, .cons _ t => congrArg (· + 1) (Rps.length t)
theorem Rps.get {K : PySem.W.Frag} {ι : Ix} {H : Hp} : ∀ {vs : List V} {ds : List D} {i : Nat} {d : D}, Rps K ι H vs ds → ds[i]? = some d → ∃ v, vs[i]? = some v ∧ Rp K ι H v d
  | _, _, _, _, .nil, e => by simp at e
  | _, _, 0, _, .cons r _, e => by simp at e; subst e; exact ⟨_, rfl, r⟩
  | _, _, i + 1, d, .cons _ t, e => by
    obtain ⟨v, h1, h2⟩ := Rps.get (i := i) (d := d) t (by simpa using e)
    exact ⟨v, by simpa using h1, h2⟩
theorem Rps.append {K : PySem.W.Frag} {ι : Ix} {H : Hp} : ∀ {vs ws : List V} {ds es : List D}, Rps K ι H vs ds → Rps K ι H ws es → Rps K ι H (vs ++ ws) (ds ++ es)
  | _, _, _, _, .nil, s => s
  | _, _, _, _, .cons r t, s => .cons r (Rps.append t s)
theorem Rps.set {K : PySem.W.Frag} {ι : Ix} {H : Hp} {v : V} {d : D} (r : Rp K ι H v d) : ∀ {vs : List V} {ds : List D} (i : Nat), Rps K ι H vs ds → Rps K ι H (vs.set i v) (ds.set i d)
  | _, _, _, .nil => .nil
  | _, _, 0, .cons _ t => .cons r t
  | _, _, i + 1, .cons q t => .cons q (Rps.set r i t)
theorem Rps.take {K : PySem.W.Frag} {ι : Ix} {H : Hp} : ∀ {vs : List V} {ds : List D} (n : Nat), Rps K ι H vs ds → Rps K ι H (vs.take n) (ds.take n)
  | _, _, 0, _ => .nil
  | _, _, _ + 1, .nil => .nil
  | _, _, n + 1, .cons r t => .cons r (Rps.take n t)
theorem Rps.drop {K : PySem.W.Frag} {ι : Ix} {H : Hp} : ∀ {vs : List V} {ds : List D} (n : Nat), Rps K ι H vs ds → Rps K ι H (vs.drop n) (ds.drop n)
  | _, _, 0, r => r
  | _, _, _ + 1, .nil => .nil
  | _, _, n + 1, .cons _ t => Rps.drop n t
theorem Rps.erase {K : PySem.W.Frag} {ι : Ix} {H : Hp} : ∀ {vs : List V} {ds : List D} (n : Nat), Rps K ι H vs ds → Rps K ι H (vs.eraseIdx n) (ds.eraseIdx n)
  | _, _, _, .nil => .nil
  | _, _, 0, .cons r t => t
  | _, _, n + 1, .cons r t => .cons r (Rps.erase n t)
theorem Rps.insert {K : PySem.W.Frag} {ι : Ix} {H : Hp} {v : V} {d : D} (r : Rp K ι H v d) {vs : List V} {ds : List D} (n : Nat) (h : Rps K ι H vs ds) : Rps K ι H (vs.take n ++ v :: vs.drop n) (ds.take n ++ d :: ds.drop n) :=
  (h.take n).append (.cons r (h.drop n))
theorem Rps.reverse {K : PySem.W.Frag} {ι : Ix} {H : Hp} : ∀ {vs : List V} {ds : List D}, Rps K ι H vs ds → Rps K ι H vs.reverse ds.reverse
  | _, _, .nil => .nil
  | _, _, .cons r t => by
    rw [List.reverse_cons, List.reverse_cons]
    exact (Rps.reverse t).append (.cons r .nil)
theorem Rps.ints {K : PySem.W.Frag} {ι : Ix} {H : Hp} : ∀ {vs : List V} {ns : List Int}, Rps K ι H vs (ns.map D.int) → vs = ns.map V.int
  | _, [], .nil => rfl
  | _, _ :: _, .cons (.int _) t => by rw [Rps.ints t]; rfl
theorem Rps.of_ints {K : PySem.W.Frag} {ι : Ix} {H : Hp} : ∀ (ns : List Int), Rps K ι H (ns.map V.int) (ns.map D.int)
  | [] => .nil
  | n :: ns => .cons (.int n) (Rps.of_ints ns)
theorem Rps.bls {K : PySem.W.Frag} {ι : Ix} {H : Hp} : ∀ {vs : List V} {ns : List Bool}, Rps K ι H vs (ns.map D.bl) → vs = ns.map V.bl
  | _, [], .nil => rfl
  | _, _ :: _, .cons (.bl _) t => by rw [Rps.bls t]; rfl

/-- key pairs -/
def Rkv (K : PySem.W.Frag) (ι : Ix) (H : Hp) : List (Key × V) → List (Key × D) → Prop := Paired fun p q => p.1 = q.1 ∧ Rp K ι H p.2 q.2
def Rfs (K : PySem.W.Frag) (ι : Ix) (H : Hp) : List (Str × V) → List (Str × D) → Prop := Paired fun p q => p.1 = q.1 ∧ Rp K ι H p.2 q.2
theorem Rkv.step {K : PySem.W.Frag} {ι ι' : Ix} {H H' : Hp} (s : Stp ι H ι' H') {a b} (h : Rkv K ι H a b) : Rkv K ι' H' a b := Paired.mapP h fun _ _ z => ⟨z.1, z.2.step s⟩
theorem Rfs.step {K : PySem.W.Frag} {ι ι' : Ix} {H H' : Hp} (s : Stp ι H ι' H') {a b} (h : Rfs K ι H a b) : Rfs K ι' H' a b := Paired.mapP h fun _ _ z => ⟨z.1, z.2.step s⟩

/-- what hangs on the program alone: the written part, the classes by number -/
structure Ctx where
  K : PySem.W.Frag
  cls : Nat → Addr

/-- a store object stands at an address -/
def Ob (C : Ctx) (ι : Ix) (H : Hp) (a : Addr) : O → Prop
  | .lst ds => ∃ xs, H a = some (.lst xs) ∧ Rps C.K ι H xs ds
  | .dic kvs => ∃ ps, H a = some (.dK ps) ∧ Rkv C.K ι H ps kvs
  | .ins c fs => ∃ dx ps, H a = some (.ins (C.cls c) dx ps) ∧ Rfs C.K ι H ps fs ∧ H dx = some (.own a) ∧ some dx ∉ ι
  | .dead => False
structure Rl (C : Ctx) (ι : Ix) (H : Hp) (st : Sto) : Prop where
  len : ι.length = st.length
  nd : ∀ (n m : Nat) (a : Addr), ι[n]? = some (some a) → ι[m]? = some (some a) → n = m
  at' : ∀ (n : Nat) (o : O) (a : Addr), st[n]? = some o → ι[n]? = some (some a) → Ob C ι H a o
  dead : ∀ n : Nat, ι[n]? = some none → st[n]? = some .dead
theorem Ob.some {C : Ctx} {ι : Ix} {H : Hp} {a : Addr} {o : O} (h : Ob C ι H a o) : ∃ u, H a = some u := by
  cases o with
  | lst => obtain ⟨_, e, _⟩ := h; exact ⟨_, e⟩
  | dic => obtain ⟨_, e, _⟩ := h; exact ⟨_, e⟩
  | ins => obtain ⟨_, _, e, _⟩ := h; exact ⟨_, e⟩
  | dead => exact h.elim
theorem Rl.get {C : Ctx} {ι : Ix} {H : Hp} {st : Sto} (R : Rl C ι H st) {n : Nat} {o : O} (h : st[n]? = some o) (hne : o ≠ .dead := by intro z; cases z) : ∃ a, ι[n]? = some (some a) ∧ Ob C ι H a o := by
  have hn : n < ι.length := by rw [R.len]; exact (List.getElem?_eq_some_iff.mp h).1
  have e := List.getElem?_eq_getElem hn
  cases q : ι[n] with
  | none =>
    rw [q] at e
    rw [R.dead n e] at h
    cases h
    exact absurd rfl hne
  | some a =>
    rw [q] at e
    exact ⟨a, e, R.at' n o _ h e⟩
theorem Rl.mem {C : Ctx} {ι : Ix} {H : Hp} {st : Sto} (R : Rl C ι H st) {a : Addr} (h : some a ∈ ι) : ∃ u, H a = some u := by
  obtain ⟨n, hn, e⟩ := List.getElem_of_mem h
  have hn' : n < st.length := by rw [← R.len]; exact hn
  exact (R.at' n st[n] a (List.getElem?_eq_getElem hn') (by rw [List.getElem?_eq_getElem hn, e])).some
theorem Rl.fresh {C : Ctx} {ι : Ix} {H : Hp} {st : Sto} (R : Rl C ι H st) {p : Addr} (h : H p = none) : some p ∉ ι := fun z => by
  obtain ⟨u, e⟩ := R.mem z
  rw [h] at e
  cases e
theorem Ob.step {C : Ctx} {ι ι' : Ix} {H H' : Hp} (s : Stp ι H ι' H') {a : Addr} {o : O} (e : H' a = H a) (h : Ob C ι H a o) : Ob C ι' H' a o := by
  cases o with
  | lst ds => obtain ⟨xs, e1, r⟩ := h; exact ⟨xs, e.trans e1, r.step s⟩
  | dic ds => obtain ⟨xs, e1, r⟩ := h; exact ⟨xs, e.trans e1, r.step s⟩
  | ins c fs => obtain ⟨dx, ps, e1, r, eo, n⟩ := h; exact ⟨dx, ps, e.trans e1, r.step s, s.keep _ _ eo n, s.out eo n⟩
  | dead => exact h.elim
section
variable {C : Ctx} {ι ι' : Ix} {H H' : Hp} {st : Sto} {p a : Addr} {o : HO} {n : Nat}
/-- a new object that is no store object -/
theorem Stp.new1 (h : H p = none) : Stp ι H ι (upd H p o) := ⟨Nat.le_refl _, fun _ _ => .inl rfl, fun a h n => absurd h n, fun b u e _ => by rw [upd_ne (ne_of_none e h)]; exact e⟩
theorem Stp.put (h : some a ∈ ι) : Stp ι H ι (upd H a o) := ⟨Nat.le_refl _, fun _ _ => .inl rfl, fun a h n => absurd h n, fun b u e n => by rw [upd_ne (fun z => n (by rw [z]; exact h))]; exact e⟩
theorem Stp.alloc (h : H p = none) : Stp ι H (ι ++ [some p]) (upd H p o) := ⟨by simp, fun n hn => .inl (List.getElem?_append_left hn), fun a ha n => by
    rcases List.mem_append.mp ha with z | z
    · exact absurd z n
    · have e : a = p := by simpa using z
      rw [e]; exact h, fun b u e _ => by rw [upd_ne (ne_of_none e h)]; exact e⟩
theorem Rl.keep (R : Rl C ι H st) (s : Stp ι H ι H') (k : ∀ a, some a ∈ ι → H' a = H a) : Rl C ι H' st :=
  ⟨R.len, R.nd, fun n o a h1 h2 => (R.at' n o a h1 h2).step s (k a (List.mem_of_getElem? h2)), R.dead⟩
theorem Rl.new1 (R : Rl C ι H st) (h : H p = none) : Rl C ι (upd H p o) st :=
  R.keep (Stp.new1 h) fun a ha => by
    obtain ⟨u, e⟩ := R.mem ha
    exact upd_ne (ne_of_none e h)
theorem ix_app {ι : Ix} {x : Option Addr} {n : Nat} {y : Option Addr} (h : (ι ++ [x])[n]? = some y) : (n < ι.length ∧ ι[n]? = some y) ∨ (n = ι.length ∧ x = y) := by
  by_cases hn : n < ι.length
  · rw [List.getElem?_append_left hn] at h
    exact .inl ⟨hn, h⟩
  · have l1 : n = ι.length := by
      have := (List.getElem?_eq_some_iff.mp h).1
      rw [List.length_append] at this
      simp at this
      omega
    rw [l1, List.getElem?_append_right (Nat.le_refl _), Nat.sub_self] at h
    exact .inr ⟨l1, by simpa using h⟩
theorem Rl.alloc (R : Rl C ι H st) (h : H p = none) {ob : O} (hob : ∀ H', Stp ι H (ι ++ [some p]) H' → H' p = some o → Ob C (ι ++ [some p]) H' p ob) : Rl C (ι ++ [some p]) (upd H p o) (st ++ [ob]) := by
  have hp := R.fresh h
  refine ⟨by rw [List.length_append, List.length_append, R.len]; rfl, fun n m a h1 h2 => ?_, fun n u a h1 h2 => ?_, fun n h1 => ?_⟩
  · rcases ix_app h1 with ⟨l1, e1⟩ | ⟨l1, e1⟩ <;> rcases ix_app h2 with ⟨l2, e2⟩ | ⟨l2, e2⟩
    · exact R.nd n m a e1 e2
    · exact absurd (List.mem_of_getElem? e1) (by rw [← e2]; exact hp)
    · exact absurd (List.mem_of_getElem? e2) (by rw [← e1]; exact hp)
    · omega
  · rcases ix_app h2 with ⟨hn, e2⟩ | ⟨hn, e2⟩
    · rw [List.getElem?_append_left (by rw [← R.len]; exact hn)] at h1
      have q := R.at' n u a h1 e2
      obtain ⟨w, e⟩ := q.some
      exact q.step (Stp.alloc h) (upd_ne (ne_of_none e h))
    · rw [hn, R.len, List.getElem?_append_right (Nat.le_refl _), Nat.sub_self] at h1
      have e1 : ob = u := by simpa using h1
      cases e2
      rw [← e1]
      exact hob _ (Stp.alloc h) upd_same
  · rcases ix_app h1 with ⟨hn, e2⟩ | ⟨hn, e2⟩
    · rw [List.getElem?_append_left (by rw [← R.len]; exact hn)]
      exact R.dead n e2
    · cases e2
theorem Rl.put (R : Rl C ι H st) (hn : ι[n]? = some (some a)) {ob : O} (hob : Stp ι H ι (upd H a o) → Ob C ι (upd H a o) a ob) : Rl C ι (upd H a o) (st.set n ob) := by
  have hm : some a ∈ ι := List.mem_of_getElem? hn
  refine ⟨by rw [List.length_set]; exact R.len, R.nd, fun m u b h1 h2 => ?_, fun m h2 => ?_⟩
  · by_cases e : n = m
    · subst e
      rw [hn] at h2
      cases h2
      have l : n < st.length := by rw [← R.len]; exact (List.getElem?_eq_some_iff.mp hn).1
      rw [List.getElem?_set_self l] at h1
      cases h1
      exact hob (Stp.put hm)
    · rw [List.getElem?_set_ne e] at h1
      have q := R.at' m u b h1 h2
      refine q.step (Stp.put hm) (upd_ne fun z => ?_)
      subst z
      exact e (R.nd n m _ hn h2)
  · by_cases e : n = m
    · subst e
      rw [hn] at h2
      cases h2
    · rw [List.getElem?_set_ne e]
      exact R.dead m h2
/-- an object that is no longer used -/
theorem Stp.kill (hn : n < ι.length) : Stp ι H (ι.set n none) H := ⟨by rw [List.length_set]; exact Nat.le_refl _, fun m hm => by
    by_cases e : n = m
    · subst e; exact .inr (List.getElem?_set_self hn)
    · exact .inl (List.getElem?_set_ne e), fun a h z => absurd (by
    rcases List.mem_or_eq_of_mem_set h with h | h
    · exact h
    · cases h) z, fun _ _ h _ => h⟩
theorem Rl.kill (R : Rl C ι H st) (hn : n < ι.length) : Rl C (ι.set n none) H (st.set n .dead) := by
  have back : ∀ {m : Nat} {a : Addr}, (ι.set n none)[m]? = some (some a) → ι[m]? = some (some a) ∧ n ≠ m := fun {m a} h => by
    by_cases e : n = m
    · subst e
      rw [List.getElem?_set_self hn] at h
      cases h
    · rw [List.getElem?_set_ne e] at h
      exact ⟨h, e⟩
  refine ⟨by rw [List.length_set, List.length_set, R.len], fun i m a h1 h2 => R.nd i m a (back h1).1 (back h2).1, fun m u b h1 h2 => ?_, fun m h => ?_⟩
  · obtain ⟨h2, e⟩ := back h2
    rw [List.getElem?_set_ne e] at h1
    exact (R.at' m u b h1 h2).step (Stp.kill hn) rfl
  · by_cases e : n = m
    · subst e
      exact List.getElem?_set_self (by rw [← R.len]; exact hn)
    · rw [List.getElem?_set_ne e] at h ⊢
      exact R.dead m h
theorem kill_out (R : Rl C ι H st) (hn : ι[n]? = some (some a)) : some a ∉ ι.set n none := fun z => by
  obtain ⟨m, hm, e⟩ := List.getElem_of_mem z
  have h := List.getElem?_eq_getElem hm
  rw [e] at h
  by_cases q : n = m
  · subst q
    rw [List.getElem?_set_self (List.getElem?_eq_some_iff.mp hn).1] at h
    cases h
  · rw [List.getElem?_set_ne q] at h
    exact q (R.nd n m a hn h)
end

/-! ### what is wanted of a result -/
/-- an exception object of an own class -/
def XRep (C : Ctx) (ι : Ix) (H : Hp) (v : Value) (od : Option Addr) (e : Exn) : Prop :=
  v = .ref (C.cls e.c) ∧ ((e.fs = [] ∧ od = none) ∨ ∃ d ps, od = some d ∧ H d = some (.xd ps) ∧ some d ∉ ι ∧ Rfs C.K ι H ps e.fs)
def Pst {α β : Type} (C : Ctx) (rel : Ix → Hp → β → α → Prop) (E : XK) (ι : Ix) (H : Hp) (Q : β → Hp → Prop) : Res α → Prop
  | .ok a st => ∀ ι' H' b, Stp ι H ι' H' → Rl C ι' H' st → rel ι' H' b a → Q b H'
  | .exc e st => ∀ ι' H' v od, Stp ι H ι' H' → Rl C ι' H' st → XRep C ι' H' v od e → E v od H'
  | .bad => False
section
variable {α β γ δ : Type} {C : Ctx} {rel : Ix → Hp → β → α → Prop} {rel2 : Ix → Hp → δ → γ → Prop} {E : XK} {ι ι' : Ix} {H H' : Hp} {Q : β → Hp → Prop} {Q2 : δ → Hp → Prop} {st : Sto}
theorem Pst.step {r : Res α} (h : Pst C rel E ι H Q r) (s : Stp ι H ι' H') : Pst C rel E ι' H' Q r := by
  cases r with
  | ok a st => exact fun ι2 H2 b t => h ι2 H2 b (s.trans t)
  | exc e st => exact fun ι2 H2 v od t => h ι2 H2 v od (s.trans t)
  | bad => exact h
theorem Pst.mono {r : Res α} {Q' : β → Hp → Prop} (h : Pst C rel E ι H Q r) (m : ∀ b H', Q b H' → Q' b H') : Pst C rel E ι H Q' r := by
  cases r with
  | ok a st => exact fun ι2 H2 b t u v => m _ _ (h ι2 H2 b t u v)
  | exc e st => exact h
  | bad => exact h
/-- what is known between two parts -/
def Mid (C : Ctx) (rel : Ix → Hp → β → α → Prop) (rel2 : Ix → Hp → δ → γ → Prop) (E : XK) (ι : Ix) (H : Hp) (Q2 : δ → Hp → Prop) (f : α → M γ) : β → Hp → Prop := fun b H1 =>
  ∃ a ι1 st1, Stp ι H ι1 H1 ∧ Rl C ι1 H1 st1 ∧ rel ι1 H1 b a ∧ Pst C rel2 E ι1 H1 Q2 (f a st1)
theorem Pst.bind {m : M α} {f : α → M γ} (h : Pst C rel2 E ι H Q2 ((m >>= f) st)) : Pst C rel E ι H (Mid C rel rel2 E ι H Q2 f) (m st) := by
  rw [bind_def] at h
  cases e : m st with
  | ok a st1 =>
    rw [e] at h
    exact fun ι1 H1 b s R r => ⟨a, ι1, st1, s, R, r, Pst.step (show Pst C rel2 E ι H Q2 (f a st1) from h) s⟩
  | exc x st1 =>
    rw [e] at h
    exact h
  | bad =>
    rw [e] at h
    exact h
theorem Pst.pure {a : α} {b : β} (h : Pst C rel E ι H Q (.ok a st)) (R : Rl C ι H st) (r : rel ι H b a) : Q b H := h ι H b (Stp.refl _ _) R r
end

/-! ### locals -/
/-- what is known of the slots -/
structure REnv (K : PySem.W.Frag) (ι : Ix) (H : Hp) (σ : List (Option V)) (env : List (Option D)) : Prop where
  len : σ.length = env.length
  at' : ∀ (i : Nat) (d : D), env[i]? = some (some d) → ∃ v, σ[i]? = some (some v) ∧ Rp K ι H v d
theorem REnv.step {K : PySem.W.Frag} {ι ι' : Ix} {H H' : Hp} {σ : L2.St} {env : Env} (s : Stp ι H ι' H') (r : REnv K ι H σ env) : REnv K ι' H' σ env :=
  ⟨r.len, fun i d e => by obtain ⟨v, h1, h2⟩ := r.at' i d e; exact ⟨v, h1, h2.step s⟩⟩
theorem REnv.set {K : PySem.W.Frag} {ι : Ix} {H : Hp} {σ : L2.St} {env : Env} (r : REnv K ι H σ env) {v : V} {d : D} (i : Nat) (h : Rp K ι H v d) : REnv K ι H (σ.set i (some v)) (env.set i (some d)) :=
  ⟨by rw [List.length_set, List.length_set, r.len], fun j e he => by
    by_cases z : i = j
    · subst z
      have l := (List.getElem?_eq_some_iff.mp he).1
      rw [List.length_set] at l
      rw [List.getElem?_set_self l] at he
      cases he
      exact ⟨v, by rw [List.getElem?_set_self (by rw [r.len]; exact l)], h⟩
    · rw [List.getElem?_set_ne z] at he
      obtain ⟨w, h1, h2⟩ := r.at' j e he
      exact ⟨w, by rw [List.getElem?_set_ne z]; exact h1, h2⟩⟩

/-! ### readings -/
def Rel1 (K : PySem.W.Frag) : Ix → Hp → V → D → Prop := fun ι H v d => Rp K ι H v d
def RelA (K : PySem.W.Frag) : Ix → Hp → List V → List D → Prop := fun ι H v d => Rps K ι H v d
def RelB : Ix → Hp → Bool → Bool → Prop := fun _ _ a b => a = b
def RelI : Ix → Hp → Option Int → Option Int → Prop := fun _ _ a b => a = b
def rdE (C : Ctx) (E : XK) (m : Env → M D) : TE := fun σ H Q => ∃ env ι st, REnv C.K ι H σ env ∧ Rl C ι H st ∧ Pst C (Rel1 C.K) E ι H Q (m env st)
def rdA (C : Ctx) (E : XK) (m : Env → M (List D)) : TA := fun σ H Q => ∃ env ι st, REnv C.K ι H σ env ∧ Rl C ι H st ∧ Pst C (RelA C.K) E ι H Q (m env st)
def rdT (C : Ctx) (E : XK) (m : Env → M Bool) : TT := fun σ H Q => ∃ env ι st, REnv C.K ι H σ env ∧ Rl C ι H st ∧ Pst C RelB E ι H Q (m env st)
def rdO (C : Ctx) (E : XK) (m : Env → M (Option Int)) : TO := fun σ H Q => ∃ env ι st, REnv C.K ι H σ env ∧ Rl C ι H st ∧ Pst C RelI E ι H Q (m env st)
section
variable {X : Cx}
theorem _root_.L2.PE.mono {e : Expr} {t t' : TE} (h : PE X e t) (m : ∀ σ H Q, t' σ H Q → t σ H Q) : PE X e t' := ⟨fun pins s σ H Q I q => h.run pins s σ H Q I (m σ H Q q)⟩
theorem _root_.L2.PT.mono {e : Expr} {t t' : TT} (h : PT X e t) (m : ∀ σ H Q, t' σ H Q → t σ H Q) : PT X e t' := ⟨fun pins s σ H Q I q => h.run pins s σ H Q I (m σ H Q q)⟩
theorem _root_.L2.PW.mono {e : Expr} {t t' : TT} (h : PW X e t) (m : ∀ σ H Q, t' σ H Q → t σ H Q) : PW X e t' := ⟨fun wh pins s σ H Q I q => h.run wh pins s σ H Q I (m σ H Q q)⟩
theorem _root_.L2.PA.mono {e : List Expr} {t t' : TA} (h : PA X e t) (m : ∀ σ H Q, t' σ H Q → t σ H Q) : PA X e t' := ⟨fun pos pins s σ H Q I q => h.run pos pins s σ H Q I (m σ H Q q)⟩
theorem _root_.L2.PS.mono {e : Stmt} {t t' : TS} (h : PS X e t) (m : ∀ D σ H, t' D σ H → t D σ H) : PS X e t' := ⟨fun pins s σ H D I q => h.run pins s σ H D I (m D σ H q)⟩
theorem _root_.L2.PSs.mono {e : List Stmt} {t t' : TS} (h : PSs X e t) (m : ∀ D σ H, t' D σ H → t D σ H) : PSs X e t' := ⟨fun pins s σ H D I q => h.run pins s σ H D I (m D σ H q)⟩
end

/-! ### names, constants, operations -/
def eVar (i : Nat) : Env → M D := fun env => match env[i]? with | some (some d) => pure d | _ => bad
def eC (d : D) : Env → M D := fun _ => pure d
def eOp (f : D → D → M D) (a b : Env → M D) : Env → M D := fun env => a env >>= fun x => b env >>= fun y => f x y
def eUn (f : D → M D) (a : Env → M D) : Env → M D := fun env => a env >>= fun x => f x
section
variable {X : Cx} {C : Ctx} {E : XK}
theorem w_var (i : Nat) {x : Str} {pos : Pos} (hN : X.N[i]? = some x := by rfl) (hv : Vis X.env.scope x := by first | exact Or.inl rfl | exact Or.inr (Or.inl rfl) | exact Or.inr (Or.inr rfl)) (hd : (x == ("__debug__" : Str)) = false := by decide)
    (hcd : (x == ("__classdict__" : Str)) = false := by decide) : PE X (.Name x pos) (rdE C E (eVar i)) :=
  (pe_var (i := i) hN hv hd hcd).mono fun σ H Q ⟨env, ι, st, re, R, h⟩ => by
    cases e : env[i]? with
    | none => simp only [eVar, e] at h; exact h.elim
    | some o =>
      cases o with
      | none => simp only [eVar, e] at h; exact h.elim
      | some d =>
        simp only [eVar, e] at h
        obtain ⟨v, h1, h2⟩ := re.at' i d e
        exact ⟨v, h1, Pst.pure (rel := Rel1 C.K) h R h2⟩
theorem w_c {e : Expr} {v : V} {d : D} (h : PE X e (tC v)) (r : ∀ ι H, Rp C.K ι H v d) : PE X e (rdE C E (eC d)) :=
  h.mono fun σ H Q ⟨env, ι, st, re, R, h⟩ => Pst.pure (rel := Rel1 C.K) h R (r ι H)
theorem w_int {i j pos} : PE X (.Constant (.int i) j pos) (rdE C E (eC (.int i))) := w_c pe_int fun _ _ => .int i
theorem w_bl {b j pos} : PE X (.Constant (.bool b) j pos) (rdE C E (eC (.bl b))) := w_c pe_bl fun _ _ => .bl b
theorem w_non {j pos} : PE X (.Constant .none j pos) (rdE C E (eC .non)) := w_c pe_non fun _ _ => .non
theorem w_str {x j pos} : PE X (.Constant (.str x) j pos) (rdE C E (eC (.str x))) := w_c pe_str fun _ _ => .str x
/-- a two-place operation on data is one on values -/
def OpD (C : Ctx) (r : R2) (f : D → D → M D) : Prop := ∀ (E : XK) (ι : Ix) (H : Hp) (st : Sto) (x y : V) (a b : D) (Q : VK), Rl C ι H st → Rp C.K ι H x a → Rp C.K ι H y b → Pst C (Rel1 C.K) E ι H Q (f a b st) → r x y H Q
def UnD (C : Ctx) (r : V → Hp → VK → Prop) (f : D → M D) : Prop := ∀ (E : XK) (ι : Ix) (H : Hp) (st : Sto) (x : V) (a : D) (Q : VK), Rl C ι H st → Rp C.K ι H x a → Pst C (Rel1 C.K) E ι H Q (f a st) → r x H Q
theorem rd_op {r : R2} {f : D → D → M D} {ma mb : Env → M D} (h : OpD C r f) {σ : L2.St} {H : Hp} {Q : VK} (q : rdE C E (eOp f ma mb) σ H Q) : tOp r (rdE C E ma) (rdE C E mb) σ H Q := by
  obtain ⟨env, ι, st, re, R, q⟩ := q
  refine ⟨env, ι, st, re, R, (Pst.bind (rel := Rel1 C.K) q).mono ?_⟩
  rintro x H1 ⟨a, ι1, st1, s1, R1, r1, q1⟩
  refine ⟨env, ι1, st1, re.step s1, R1, (Pst.bind (rel := Rel1 C.K) q1).mono ?_⟩
  rintro y H2 ⟨b, ι2, st2, s2, R2, r2, q2⟩
  exact h E ι2 H2 st2 x y a b Q R2 (Rp.step s2 r1) r2 q2
theorem w_op {a b : Expr} {op : Operator} {pos : Pos} {r : R2} {f : D → D → M D} {ma mb : Env → M D} (ho : OpR X (binaryOp op) r) (h : OpD C r f) (ha : PE X a (rdE C E ma)) (hb : PE X b (rdE C E mb)) : PE X (.BinOp a op b pos) (rdE C E (eOp f ma mb)) :=
  (pe_op ho ha hb).mono fun _ _ _ => rd_op h
theorem w_un {a : Expr} {op : UnaryOp} {pos : Pos} {r : V → Hp → VK → Prop} {f : D → M D} {ma : Env → M D} (ho : UnR X (unaryOp op) r) (h : UnD C r f) (ha : PE X a (rdE C E ma)) : PE X (.UnaryOp op a pos) (rdE C E (eUn f ma)) :=
  (pe_un ho ha).mono fun σ H Q q => by
    obtain ⟨env, ι, st, re, R, q⟩ := q
    refine ⟨env, ι, st, re, R, (Pst.bind (rel := Rel1 C.K) q).mono ?_⟩
    rintro x H1 ⟨a, ι1, st1, s1, R1, r1, q1⟩
    exact h E ι1 H1 st1 x a Q R1 r1 q1
theorem w_cmp {a b : Expr} {op : CmpOp} {pos : Pos} {r : R2} {f : D → D → M D} {ma mb : Env → M D} (ho : OpR X (compareOp op) r) (h : OpD C r f) (ha : PE X a (rdE C E ma)) (hb : PE X b (rdE C E mb)) (hm : behindInMarks op b = false) :
    PE X (.Compare a [op] [b] pos) (rdE C E (eOp f ma mb)) := (pe_cmpR ho ha hb hm).mono fun _ _ _ => rd_op h
end
end Mir

namespace Mir
open PySem PySem.Spec PyProof.Rows L2

/-! ### items -/
def lstOf (st : Sto) : D → Option (List D)
  | .lst xs => some xs
  | .obj n => match st[n]? with
    | some (.lst xs) => some xs
    | _ => none
  | _ => none
def seqOf (st : Sto) : D → Option (List D)
  | .tup xs => some xs
  | d => lstOf st d
section
variable {C : Ctx} {ι : Ix} {H : Hp} {st : Sto} {x : V} {d : D} {ds : List D} {n : Nat}
theorem obj_lst (h : lstOf st (.obj n) = some ds) : st[n]? = some (.lst ds) := by
  cases e : st[n]? with
  | none => simp only [lstOf, e] at h; cases h
  | some o =>
    cases o with
    | lst ys => simp only [lstOf, e] at h; cases h; rfl
    | dic _ => simp only [lstOf, e] at h; cases h
    | ins _ _ => simp only [lstOf, e] at h; cases h
    | dead => simp only [lstOf, e] at h; cases h
theorem lst_of (R : Rl C ι H st) (r : Rp C.K ι H x d) (h : lstOf st d = some ds) : ∃ a xs, x = .ref a ∧ Rd H a (.lst xs) ∧ Rps C.K ι H xs ds := by
  cases r with
  | lst q r => simp only [lstOf, Option.some.injEq] at h; subst h; exact ⟨_, _, rfl, q.1, r⟩
  | @obj a n e =>
    obtain ⟨b, e2, xs, q, r⟩ := R.get (obj_lst h)
    rw [e] at e2
    cases e2
    exact ⟨_, _, rfl, .inl q, r⟩
  | dead e =>
    have hs := obj_lst h
    rw [R.dead _ e] at hs
    cases hs
  | _ => simp only [lstOf] at h; cases h
theorem seq_of (R : Rl C ι H st) (r : Rp C.K ι H x d) (h : seqOf st d = some ds) : ∃ a xs, x = .ref a ∧ (SqL C.K H a xs ∨ SqT C.K H a xs) ∧ Rps C.K ι H xs ds := by
  cases d with
  | tup ys =>
    cases r with
    | tup q r => simp only [seqOf, Option.some.injEq] at h; subst h; exact ⟨_, _, rfl, .inr q.t, r⟩
  | _ =>
    obtain ⟨a, xs, e, q, r⟩ := lst_of R r (show lstOf st _ = some ds from h)
    exact ⟨a, xs, e, .inl (.inl q), r⟩
end
/-! a new tuple, a new list, as a value -/
section
variable {C : Ctx} {E : XK} {ι : Ix} {H : Hp} {st : Sto} {Q : VK} {p : Addr} {xs : List V} {ds : List D}
theorem new_tup (R : Rl C ι H st) (r : Rps C.K ι H xs ds) (h : Pst C (Rel1 C.K) E ι H Q (.ok (.tup ds) st)) (np : H p = none) : Q (.ref p) (upd H p (.tup xs)) :=
  h ι _ _ (Stp.new1 np) (R.new1 np) (.tup (.inl ⟨.inl upd_same, R.fresh np⟩) (r.step (Stp.new1 np)))
theorem new_lst (R : Rl C ι H st) (r : Rps C.K ι H xs ds) (h : Pst C (Rel1 C.K) E ι H Q (.ok (.lst ds) st)) (np : H p = none) : Q (.ref p) (upd H p (.lst xs)) :=
  h ι _ _ (Stp.new1 np) (R.new1 np) (.lst ⟨.inl upd_same, R.fresh np⟩ (r.step (Stp.new1 np)))
end

/-! ### arithmetic -/
def okIf (c : Bool) (d : D) : M D := fun st => if c then .ok d st else .bad
def szOk (n : Nat) : Bool := decide (n ≤ sizeLine)
def addD (a b : D) : M D := fun st => match a, b with
  | .int i, .int j => .ok (.int (i + j)) st
  | .str x, .str y => okIf (szOk (x.length + y.length)) (.str (x ++ y)) st
  | .tup xs, .tup ys => okIf (szOk (xs.length + ys.length)) (.tup (xs ++ ys)) st
  | a, b => match lstOf st a, lstOf st b with
    | some xs, some ys => okIf (szOk (xs.length + ys.length)) (.lst (xs ++ ys)) st
    | _, _ => .bad
def subD (a b : D) : M D := fun st => match a, b with
  | .int i, .int j => .ok (.int (i - j)) st
  | _, _ => .bad
def mulI (i j : Int) : Bool := decide (i.natAbs.log2 + j.natAbs.log2 < 134217000)
def mulD (a b : D) : M D := fun st => match a, b with
  | .int i, .int j => okIf (mulI i j) (.int (i * j)) st
  | _, _ => .bad
def divI (j : Int) : Bool := decide (j ≠ 0 ∧ j.natAbs.log2 < 9000)
def fdivD (a b : D) : M D := fun st => match a, b with
  | .int i, .int j => okIf (divI j) (.int (i.fdiv j)) st
  | _, _ => .bad
def modD (a b : D) : M D := fun st => match a, b with
  | .int i, .int j => okIf (decide (j ≠ 0)) (.int (i.fmod j)) st
  | _, _ => .bad
def powI (i j : Int) : Bool := decide (0 ≤ j ∧ j ≤ 1000000 ∧ i.natAbs < 2 ^ 64)
def powD (a b : D) : M D := fun st => match a, b with
  | .int i, .int j => okIf (powI i j) (.int (i ^ j.toNat)) st
  | _, _ => .bad
def negD (a : D) : M D := fun st => match a with
  | .int i => .ok (.int (-i)) st
  | _ => .bad
def ltD (a b : D) : M D := fun st => match a, b with
  | .int i, .int j => .ok (.bl (decide (i < j))) st
  | _, _ => .bad
def leD (a b : D) : M D := fun st => match a, b with
  | .int i, .int j => .ok (.bl (decide (i ≤ j))) st
  | _, _ => .bad
def gtD (a b : D) : M D := fun st => match a, b with
  | .int i, .int j => .ok (.bl (decide (j < i))) st
  | _, _ => .bad
def geD (a b : D) : M D := fun st => match a, b with
  | .int i, .int j => .ok (.bl (decide (j ≤ i))) st
  | _, _ => .bad
theorem okIf_cases {c : Bool} {d : D} {st : Sto} {C : Ctx} {E : XK} {ι : Ix} {H : Hp} {Q : VK} (h : Pst C (Rel1 C.K) E ι H Q (okIf c d st)) : c = true ∧ Pst C (Rel1 C.K) E ι H Q (.ok d st) := by
  cases c with
  | true => exact ⟨rfl, h⟩
  | false => exact h.elim

section
variable {X : Cx} {C : Ctx}
/-- list + list -/
def rCatR : R2 := fun x y H Q => ∃ l b xs zs, x = .ref l ∧ y = .ref b ∧ Rd H l (.lst xs) ∧ Rd H b (.lst zs) ∧ xs.length + zs.length ≤ sizeLine ∧ ∀ p, H p = none → Q (.ref p) (upd H p (.lst (xs ++ zs)))
theorem rd_lst {pins : List (Addr × Obj)} {σ : L2.St} {H : Hp} {s : Shared} {l : Addr} {xs : List V} (I : Inv X pins σ H s) (h : Rd H l (.lst xs)) :
    xs.length ≤ sizeLine ∧ ∃ (us : List Value) (m : Nat), Vals xs us ∧ xs.length = us.length ∧ s.heap.get? l = some { cls := .type "list", data := .seq us.toArray m } := by
  obtain ⟨z, us, m, r, e⟩ := h.ok I.hok
  exact ⟨z, us, m, r, r.length, e⟩
theorem op_catR : OpR X (binaryOp .Add) rCatR := by
  intro pins s σ H x y v u Q I rx ry h
  obtain ⟨l, b, xs, zs, rfl, rfl, hl, hb, hz, q⟩ := h
  cases rx
  cases ry
  obtain ⟨z1, us1, m1, r1, l1, e1⟩ := rd_lst I hl
  obtain ⟨z2, us2, m2, r2, l2, e2⟩ := rd_lst I hb
  refine PySem.P.add_list e1 e2 ?_ (by rw [List.size_toArray, List.size_toArray, ← l1, ← l2]; exact hz)
  rw [show us1.toArray ++ us2.toArray = (us1 ++ us2).toArray by simp]
  refine ⟨.ref _, _, Inv.lnew (t' := s.toks) I (r1.append r2) ?_, rfl, q _ I.fresh⟩
  rw [List.length_append]
  exact hz
def rAddU (K : PySem.W.Frag) : R2 := fun x y H Q => rI0 (fun i j => .int (i + j)) x y H Q ∨ ((∃ i j, x = .str i ∧ y = .str j ∧ i.length + j.length ≤ sizeLine ∧ Q (.str (i ++ j)) H) ∨ (rCatA K x y H Q ∨ rCatR x y H Q))
theorem op_addU : OpR X (binaryOp .Add) (rAddU X.K) := op_add.or (op_add_str.or (op_catA.or op_catR))
theorem od_add : OpD C (rAddU C.K) addD := by
  intro E ι H st x y a b Q R rx ry h
  unfold addD at h
  split at h
  · cases rx; cases ry
    exact .inl ⟨_, _, rfl, rfl, h.pure R (.int _)⟩
  · cases rx; cases ry
    obtain ⟨c, h⟩ := okIf_cases h
    exact .inr (.inl ⟨_, _, rfl, rfl, of_decide_eq_true c, h.pure R (.str _)⟩)
  · rename_i xs ys
    obtain ⟨c, h⟩ := okIf_cases h
    cases rx with
    | @tup a vs _ qa ra =>
      cases ry with
      | @tup b ws _ qb rb =>
        refine .inr (.inr (.inl ⟨_, _, _, _, rfl, rfl, qa.t, qb.t, by rw [ra.length, rb.length]; exact of_decide_eq_true c, fun e => ?_, fun _ e => ?_, fun _ _ p np => new_tup R (ra.append rb) h np⟩))
        · subst e
          cases ra
          exact h.pure R (.tup qb rb)
        · subst e
          cases rb
          refine h.pure R (.tup qa ?_)
          rw [List.append_nil]
          exact ra
  · cases ha : lstOf st a with
    | none => simp only [ha] at h; exact h.elim
    | some xs =>
      cases hb : lstOf st b with
      | none => simp only [ha, hb] at h; exact h.elim
      | some ys =>
        simp only [ha, hb] at h
        obtain ⟨c, h⟩ := okIf_cases h
        obtain ⟨p1, vs, e1, q1, r1⟩ := lst_of R rx ha
        obtain ⟨p2, ws, e2, q2, r2⟩ := lst_of R ry hb
        exact .inr (.inr (.inr ⟨p1, p2, vs, ws, e1, e2, q1, q2, by rw [r1.length, r2.length]; exact of_decide_eq_true c, fun p np => new_lst R (r1.append r2) h np⟩))
/-- ints alone -/
theorem od_ii {r : R2} {f : D → D → M D} {c : Int → Int → Bool} {g : Int → Int → D} {gv : Int → Int → V} (hg : ∀ C ι H i j, Rp (Ctx.K C) ι H (gv i j) (g i j))
    (hr : ∀ i j H Q, c i j = true → Q (gv i j) H → r (.int i) (.int j) H Q) (hi : ∀ i j st, f (.int i) (.int j) st = okIf (c i j) (g i j) st)
    (hn : ∀ a b st, (∀ i j, a = .int i → b = .int j → False) → f a b st = .bad) : OpD C r f := by
  intro E ι H st x y a b Q R rx ry h
  by_cases ex : ∃ i j, a = .int i ∧ b = .int j
  · obtain ⟨i, j, rfl, rfl⟩ := ex
    cases rx; cases ry
    rw [hi] at h
    obtain ⟨hc, h⟩ := okIf_cases h
    exact hr _ _ _ _ hc (h.pure R (hg C _ _ _ _))
  · rw [hn a b st fun i j e1 e2 => ex ⟨i, j, e1, e2⟩] at h
    exact h.elim
theorem od_sub : OpD C (rI0 fun i j => .int (i - j)) subD := by
  refine od_ii (c := fun _ _ => true) (g := fun i j => .int (i - j)) (gv := fun i j => .int (i - j)) (fun _ _ _ _ _ => .int _) (fun i j H Q _ q => ⟨i, j, rfl, rfl, q⟩) (fun _ _ _ => rfl) fun a b st hn => ?_
  unfold subD
  split
  · exact (hn _ _ rfl rfl).elim
  · rfl
/-- * of two factors of together less than 2 ^ 27 bits -/
def CMulX (i j : Int) : Prop := i.natAbs.log2 + j.natAbs.log2 < 134217000
theorem bits_log2 (x : Int) : Builtin.Int.intBits x ≤ x.natAbs.log2 + 1 := by
  unfold Builtin.Int.intBits
  split <;> omega
theorem CMulX.ok {i j : Int} (h : CMulX i j) : IntMulOk i j := by
  unfold CMulX at h
  exact IntMulOk.of_le (bits_log2 i) (bits_log2 j) (by omega)
theorem op_mulX : OpR X (binaryOp .Mult) (rI CMulX fun i j => .int (i * j)) := opI fun _ _ _ _ _ _ _ hc q => mul_int q hc.ok
theorem od_mul : OpD C (rI CMulX fun i j => .int (i * j)) mulD := by
  refine od_ii (c := mulI) (g := fun i j => .int (i * j)) (gv := fun i j => .int (i * j)) (fun _ _ _ _ _ => .int _) (fun i j H Q c q => ⟨i, j, rfl, rfl, of_decide_eq_true (p := i.natAbs.log2 + j.natAbs.log2 < 134217000) c, q⟩) (fun _ _ _ => rfl) fun a b st hn => ?_
  unfold mulD
  split
  · exact (hn _ _ rfl rfl).elim
  · rfl
/-- // by any divisor but 0, below 2 ^ 9000 -/
theorem op_fdivD : OpR X (binaryOp .FloorDiv) (rI (fun _ j => j ≠ 0 ∧ j.natAbs.log2 < 9000) fun i j => .int (i.fdiv j)) :=
  opI fun _ _ _ _ _ _ _ hc q => floordiv_int hc.1 q (.inl (PyProof.noPylong_of_log2 hc.2))
theorem od_fdiv : OpD C (rI (fun _ j => j ≠ 0 ∧ j.natAbs.log2 < 9000) fun i j => .int (i.fdiv j)) fdivD := by
  refine od_ii (c := fun _ j => divI j) (g := fun i j => .int (i.fdiv j)) (gv := fun i j => .int (i.fdiv j)) (fun _ _ _ _ _ => .int _) (fun i j H Q c q => ⟨i, j, rfl, rfl, of_decide_eq_true c, q⟩) (fun _ _ _ => rfl) fun a b st hn => ?_
  unfold fdivD
  split
  · exact (hn _ _ rfl rfl).elim
  · rfl
theorem od_mod : OpD C (rI (fun _ j => j ≠ 0) fun i j => .int (i.fmod j)) modD := by
  refine od_ii (c := fun _ j => decide (j ≠ 0)) (g := fun i j => .int (i.fmod j)) (gv := fun i j => .int (i.fmod j)) (fun _ _ _ _ _ => .int _) (fun i j H Q c q => ⟨i, j, rfl, rfl, of_decide_eq_true c, q⟩) (fun _ _ _ => rfl) fun a b st hn => ?_
  unfold modD
  split
  · exact (hn _ _ rfl rfl).elim
  · rfl
theorem od_pow : OpD C (rI CPow fun i j => .int (i ^ j.toNat)) powD := by
  refine od_ii (c := powI) (g := fun i j => .int (i ^ j.toNat)) (gv := fun i j => .int (i ^ j.toNat)) (fun _ _ _ _ _ => .int _) (fun i j H Q c q => ⟨i, j, rfl, rfl, of_decide_eq_true (p := 0 ≤ j ∧ j ≤ 1000000 ∧ i.natAbs < 2 ^ 64) c, q⟩) (fun _ _ _ => rfl) fun a b st hn => ?_
  unfold powD
  split
  · exact (hn _ _ rfl rfl).elim
  · rfl
theorem od_cmp {f : D → D → M D} {p : Int → Int → Bool} (hi : ∀ i j st, f (.int i) (.int j) st = .ok (.bl (p i j)) st) (hn : ∀ a b st, (∀ i j, a = .int i → b = .int j → False) → f a b st = .bad) : OpD C (rI0 fun i j => .bl (p i j)) f :=
  od_ii (c := fun _ _ => true) (g := fun i j => .bl (p i j)) (gv := fun i j => .bl (p i j)) (fun _ _ _ _ _ => .bl _) (fun i j H Q _ q => ⟨i, j, rfl, rfl, q⟩) hi hn
theorem od_lt : OpD C (rI0 fun i j => .bl (decide (i < j))) ltD := od_cmp (fun _ _ _ => rfl) fun a b st hn => by
  unfold ltD
  split
  · exact (hn _ _ rfl rfl).elim
  · rfl
theorem od_le : OpD C (rI0 fun i j => .bl (decide (i ≤ j))) leD := od_cmp (fun _ _ _ => rfl) fun a b st hn => by
  unfold leD
  split
  · exact (hn _ _ rfl rfl).elim
  · rfl
theorem od_gt : OpD C (rI0 fun i j => .bl (decide (j < i))) gtD := od_cmp (fun _ _ _ => rfl) fun a b st hn => by
  unfold gtD
  split
  · exact (hn _ _ rfl rfl).elim
  · rfl
theorem od_ge : OpD C (rI0 fun i j => .bl (decide (j ≤ i))) geD := od_cmp (fun _ _ _ => rfl) fun a b st hn => by
  unfold geD
  split
  · exact (hn _ _ rfl rfl).elim
  · rfl
theorem ud_neg : UnD C (rU fun i => .int (-i)) negD := by
  intro E ι H st x a Q R rx h
  cases rx <;> first
    | (simp only [negD] at h; exact h.elim)
    | exact ⟨_, rfl, Pst.pure (rel := Rel1 C.K) h R (.int _)⟩
end
end Mir

namespace Mir
open PySem PySem.Spec PyProof.Rows L2

/-! ### truth, and, or, not, if-else -/
def asB : D → M Bool
  | .bl b => pure b
  | _ => bad
def eAnd (a b : Env → M D) : Env → M D := fun env => a env >>= fun x => asB x >>= fun c => if c then b env else pure (.bl false)
def eOr (a b : Env → M D) : Env → M D := fun env => a env >>= fun x => asB x >>= fun c => if c then pure (.bl true) else b env
def eNot (a : Env → M D) : Env → M D := fun env => a env >>= fun x => asB x >>= fun c => pure (.bl (!c))
def tst (a : Env → M D) : Env → M Bool := fun env => a env >>= asB
def tAndM (a b : Env → M Bool) : Env → M Bool := fun env => a env >>= fun c => if c then b env else pure false
def tOrM (a b : Env → M Bool) : Env → M Bool := fun env => a env >>= fun c => if c then pure true else b env
def tNotM (a : Env → M Bool) : Env → M Bool := fun env => a env >>= fun c => pure (!c)
def eIf (t : Env → M Bool) (a b : Env → M D) : Env → M D := fun env => t env >>= fun c => if c then a env else b env
theorem asB_bind {C : Ctx} {K : PySem.W.Frag} {γ δ : Type} {rel2 : Ix → Hp → δ → γ → Prop} {E : XK} {ι : Ix} {H : Hp} {Q : δ → Hp → Prop} {st : Sto} {x : V} {d : D} {f : Bool → M γ} (r : Rp K ι H x d)
    (h : Pst C rel2 E ι H Q ((asB d >>= f) st)) : ∃ c, x = .bl c ∧ Pst C rel2 E ι H Q (f c st) := by
  cases r with
  | bl b => exact ⟨b, rfl, h⟩
  | _ => exact h.elim
section
variable {X : Cx} {C : Ctx} {E : XK} {a b c e : Expr} {rest : List Expr} {pos : Pos} {ma mb : Env → M D} {ta tb : Env → M Bool}
theorem w_one {op} (h : PE X a (rdE C E ma)) : PE X (.BoolOp op [a] pos) (rdE C E ma) := pe_one h
theorem w_and (ha : PE X a (rdE C E ma)) (hb : PE X (.BoolOp .And (b :: rest) pos) (rdE C E mb)) : PE X (.BoolOp .And (a :: b :: rest) pos) (rdE C E (eAnd ma mb)) :=
  (pe_and ha hb).mono fun σ H Q ⟨env, ι, st, re, R, q⟩ => ⟨env, ι, st, re, R, (Pst.bind (rel := Rel1 C.K) q).mono fun x H1 ⟨d, ι1, st1, s1, R1, r1, q1⟩ => by
    obtain ⟨c, e, q2⟩ := asB_bind r1 q1
    refine ⟨c, e, ?_⟩
    cases c with
    | true => exact ⟨env, ι1, st1, re.step s1, R1, q2⟩
    | false => exact q2.pure R1 (.bl false)⟩
theorem w_or (ha : PE X a (rdE C E ma)) (hb : PE X (.BoolOp .Or (b :: rest) pos) (rdE C E mb)) : PE X (.BoolOp .Or (a :: b :: rest) pos) (rdE C E (eOr ma mb)) :=
  (pe_or ha hb).mono fun σ H Q ⟨env, ι, st, re, R, q⟩ => ⟨env, ι, st, re, R, (Pst.bind (rel := Rel1 C.K) q).mono fun x H1 ⟨d, ι1, st1, s1, R1, r1, q1⟩ => by
    obtain ⟨c, e, q2⟩ := asB_bind r1 q1
    refine ⟨c, e, ?_⟩
    cases c with
    | true => exact q2.pure R1 (.bl true)
    | false => exact ⟨env, ι1, st1, re.step s1, R1, q2⟩⟩
theorem w_not (ha : PE X a (rdE C E ma)) : PE X (.UnaryOp .Not a pos) (rdE C E (eNot ma)) :=
  (pe_not ha).mono fun σ H Q ⟨env, ι, st, re, R, q⟩ => ⟨env, ι, st, re, R, (Pst.bind (rel := Rel1 C.K) q).mono fun x H1 ⟨d, ι1, st1, s1, R1, r1, q1⟩ => by
    obtain ⟨c, e, q2⟩ := asB_bind r1 q1
    exact ⟨c, e, q2.pure R1 (.bl _)⟩⟩
theorem rd_tst {σ : L2.St} {H : Hp} {Q : Bool → Hp → Prop} (q : rdT C E (tst ma) σ H Q) : tB (rdE C E ma) σ H Q := by
  obtain ⟨env, ι, st, re, R, q⟩ := q
  refine ⟨env, ι, st, re, R, (Pst.bind (rel := Rel1 C.K) q).mono ?_⟩
  rintro x H1 ⟨d, ι1, st1, s1, R1, r1, q1⟩
  cases r1 with
  | bl b => exact ⟨b, rfl, Pst.pure (rel := RelB) q1 R1 rfl⟩
  | _ => exact q1.elim
/-- a test by the value of a call, a name, an item .. -/
theorem t_val (h : PE X e (rdE C E ma)) (he : ∀ whole, isTrue e X.env whole = (do let v ← whole; standAt e.pos; holding [v] (truthy v)) := by intro _; rfl) : PT X e (rdT C E (tst ma)) :=
  (pt_val h he).mono fun _ _ _ => rd_tst
theorem t_cmp {op : CmpOp} {r : R2} {f : D → D → M D} (ho : OpR X (compareOp op) r) (h : OpD C r f) (ha : PE X a (rdE C E ma)) (hb : PE X b (rdE C E mb)) (hm : behindInMarks op b = false) :
    PT X (.Compare a [op] [b] pos) (rdT C E (tst (eOp f ma mb))) := (pt_cmpR ho ha hb hm).mono fun σ H Q q => by
  have q' := rd_tst q
  obtain ⟨env, ι, st, re, R, q2⟩ := q'
  exact rd_op h ⟨env, ι, st, re, R, q2⟩
theorem t_and1 (h : PT X a (rdT C E ta)) : PW X (.BoolOp .And [a] pos) (rdT C E ta) := pw_and1 h
theorem t_or1 (h : PT X a (rdT C E ta)) : PW X (.BoolOp .Or [a] pos) (rdT C E ta) := pw_or1 h
theorem t_and (ha : PT X a (rdT C E ta)) (hb : PW X (.BoolOp .And (b :: rest) pos) (rdT C E tb)) : PW X (.BoolOp .And (a :: b :: rest) pos) (rdT C E (tAndM ta tb)) :=
  (pw_and ha hb).mono fun σ H Q ⟨env, ι, st, re, R, q⟩ => ⟨env, ι, st, re, R, (Pst.bind (rel := RelB) q).mono fun x H1 ⟨d, ι1, st1, s1, R1, r1, q1⟩ => by
    obtain rfl : x = d := r1
    cases x with
    | true => exact ⟨env, ι1, st1, re.step s1, R1, q1⟩
    | false => exact Pst.pure (rel := RelB) q1 R1 rfl⟩
theorem t_or (ha : PT X a (rdT C E ta)) (hb : PW X (.BoolOp .Or (b :: rest) pos) (rdT C E tb)) : PW X (.BoolOp .Or (a :: b :: rest) pos) (rdT C E (tOrM ta tb)) :=
  (pw_or ha hb).mono fun σ H Q ⟨env, ι, st, re, R, q⟩ => ⟨env, ι, st, re, R, (Pst.bind (rel := RelB) q).mono fun x H1 ⟨d, ι1, st1, s1, R1, r1, q1⟩ => by
    obtain rfl : x = d := r1
    cases x with
    | true => exact Pst.pure (rel := RelB) q1 R1 rfl
    | false => exact ⟨env, ι1, st1, re.step s1, R1, q1⟩⟩
theorem t_not (ha : PT X a (rdT C E ta)) : PT X (.UnaryOp .Not a pos) (rdT C E (tNotM ta)) :=
  (pt_not ha).mono fun σ H Q ⟨env, ι, st, re, R, q⟩ => ⟨env, ι, st, re, R, (Pst.bind (rel := RelB) q).mono fun x H1 ⟨d, ι1, st1, s1, R1, r1, q1⟩ => by
    obtain rfl : x = d := r1
    exact Pst.pure (rel := RelB) q1 R1 rfl⟩
theorem w_if (hc : PT X c (rdT C E ta)) (ha : PE X a (rdE C E ma)) (hb : PE X b (rdE C E mb)) : PE X (.IfExp c a b pos) (rdE C E (eIf ta ma mb)) :=
  (pe_ifExp hc ha hb).mono fun σ H Q ⟨env, ι, st, re, R, q⟩ => ⟨env, ι, st, re, R, (Pst.bind (rel := RelB) q).mono fun x H1 ⟨d, ι1, st1, s1, R1, r1, q1⟩ => by
    obtain rfl : x = d := r1
    cases x with
    | true => exact ⟨env, ι1, st1, re.step s1, R1, q1⟩
    | false => exact ⟨env, ι1, st1, re.step s1, R1, q1⟩⟩
/-- a < b < c: b asked once -/
def eChain (f g : D → D → M D) (a b c : Env → M D) : Env → M D := fun env => a env >>= fun x => b env >>= fun y => f x y >>= fun z => asB z >>= fun k => if k then c env >>= fun u => g y u else pure (.bl false)
theorem rd_chain {r r' : R2} {f g : D → D → M D} {ma mb mc : Env → M D} (h : OpD C r f) (h' : OpD C r' g) {σ : L2.St} {H : Hp} {Q : VK} (q : rdE C E (eChain f g ma mb mc) σ H Q) : tChain r r' (rdE C E ma) (rdE C E mb) (rdE C E mc) σ H Q := by
  obtain ⟨env, ι, st, re, R, q⟩ := q
  refine ⟨env, ι, st, re, R, (Pst.bind (rel := Rel1 C.K) q).mono ?_⟩
  rintro x H1 ⟨a, ι1, st1, s1, R1, r1, q1⟩
  refine ⟨env, ι1, st1, re.step s1, R1, (Pst.bind (rel := Rel1 C.K) q1).mono ?_⟩
  rintro y H2 ⟨b, ι2, st2, s2, R2, r2, q2⟩
  refine h E ι2 H2 st2 x y a b _ R2 (Rp.step s2 r1) r2 ((Pst.bind (rel := Rel1 C.K) q2).mono ?_)
  rintro z H3 ⟨d, ι3, st3, s3, R3, r3, q3⟩
  obtain ⟨k, e, q4⟩ := asB_bind r3 q3
  refine ⟨k, e, ?_⟩
  cases k with
  | true =>
    refine ⟨env, ι3, st3, re.step (s1.trans (s2.trans s3)), R3, (Pst.bind (rel := Rel1 C.K) q4).mono ?_⟩
    rintro u H4 ⟨c, ι4, st4, s4, R4, r4, q5⟩
    exact h' E ι4 H4 st4 y u b c Q R4 (Rp.step (s3.trans s4) r2) r4 q5
  | false => exact q4.pure R3 (.bl false)
end

/-! ### arguments, displays -/
def aNil : Env → M (List D) := fun _ => pure []
def aCons (a : Env → M D) (r : Env → M (List D)) : Env → M (List D) := fun env => a env >>= fun x => r env >>= fun xs => pure (x :: xs)
def eTup (a : Env → M (List D)) : Env → M D := fun env => a env >>= fun xs => okIf (szOk xs.length) (.tup xs)
def eLst (a : Env → M (List D)) : Env → M D := fun env => a env >>= fun xs => okIf (szOk xs.length) (.lst xs)
/-- a new object -/
def allocD (o : O) : M D := fun st => .ok (.obj st.length) (st ++ [o])
def eNew (a : Env → M (List D)) : Env → M D := fun env => a env >>= fun xs => fun st => if szOk xs.length then allocD (.lst xs) st else .bad
section
variable {C : Ctx} {E : XK} {ι : Ix} {H : Hp} {st : Sto} {Q : VK} {p : Addr} {xs : List V} {ds : List D}
theorem new_obj (R : Rl C ι H st) (r : Rps C.K ι H xs ds) (h : Pst C (Rel1 C.K) E ι H Q (allocD (.lst ds) st)) (np : H p = none) : Q (.ref p) (upd H p (.lst xs)) := by
  have s := Stp.alloc (ι := ι) (o := .lst xs) np
  refine h (ι ++ [some p]) _ _ s (R.alloc np fun H' s' e => ⟨xs, e, r.step s'⟩) (.obj ?_)
  rw [← R.len, List.getElem?_append_right (Nat.le_refl _), Nat.sub_self]
  rfl
end
section
variable {X : Cx} {C : Ctx} {E : XK} {a : Expr} {es : List Expr} {pos : Pos} {ma : Env → M D} {mr : Env → M (List D)}
theorem a_nil : PA X [] (rdA C E aNil) := pa_nil.mono fun σ H Q ⟨env, ι, st, re, R, q⟩ => Pst.pure (rel := RelA C.K) q R .nil
theorem a_cons (ha : PE X a (rdE C E ma)) (hr : PA X es (rdA C E mr)) (hs : starEach (a :: es) X.env = (false, eval a X.env) :: starEach es X.env := by rfl) : PA X (a :: es) (rdA C E (aCons ma mr)) :=
  (pa_cons ha hr hs).mono fun σ H Q ⟨env, ι, st, re, R, q⟩ => ⟨env, ι, st, re, R, (Pst.bind (rel := Rel1 C.K) q).mono fun x H1 ⟨d, ι1, st1, s1, R1, r1, q1⟩ =>
    ⟨env, ι1, st1, re.step s1, R1, (Pst.bind (rel := RelA C.K) q1).mono fun xs H2 ⟨ds, ι2, st2, s2, R2, r2, q2⟩ => Pst.pure (rel := RelA C.K) q2 R2 (.cons (Rp.step s2 r1) r2)⟩⟩
theorem w_tup {x1} (h : PA X es (rdA C E mr)) : PE X (.Tuple es x1 pos) (rdE C E (eTup mr)) :=
  (pe_tup h).mono fun σ H Q ⟨env, ι, st, re, R, q⟩ => ⟨env, ι, st, re, R, (Pst.bind (rel := RelA C.K) q).mono fun xs H1 ⟨ds, ι1, st1, s1, R1, r1, q1⟩ => by
    obtain ⟨c, q2⟩ := okIf_cases q1
    exact ⟨by rw [Rps.length r1]; exact of_decide_eq_true c, fun p np => new_tup R1 r1 q2 np⟩⟩
theorem w_lst (h : PA X es (rdA C E mr)) : PE X (.List es pos) (rdE C E (eLst mr)) :=
  (pe_lst h).mono fun σ H Q ⟨env, ι, st, re, R, q⟩ => ⟨env, ι, st, re, R, (Pst.bind (rel := RelA C.K) q).mono fun xs H1 ⟨ds, ι1, st1, s1, R1, r1, q1⟩ => by
    obtain ⟨c, q2⟩ := okIf_cases q1
    exact ⟨by rw [Rps.length r1]; exact of_decide_eq_true c, fun p np => new_lst R1 r1 q2 np⟩⟩
theorem w_new (h : PA X es (rdA C E mr)) : PE X (.List es pos) (rdE C E (eNew mr)) :=
  (pe_lst h).mono fun σ H Q ⟨env, ι, st, re, R, q⟩ => ⟨env, ι, st, re, R, (Pst.bind (rel := RelA C.K) q).mono fun xs H1 ⟨ds, ι1, st1, s1, R1, r1, q1⟩ => by
    cases c : szOk ds.length with
    | true =>
      simp only [c, if_true] at q1
      exact ⟨by rw [Rps.length r1]; exact of_decide_eq_true c, fun p np => new_obj R1 r1 q1 np⟩
    | false => simp only [c] at q1; exact q1.elim⟩
end

/-! ### items, slices -/
theorem atI_rps {K : PySem.W.Frag} {ι : Ix} {H : Hp} {vs : List V} {ds : List D} {i : Int} {d : D} (r : Rps K ι H vs ds) (h : atI ds i = some d) : ∃ v, atI vs i = some v ∧ Rp K ι H v d := by
  unfold atI at h ⊢
  rw [r.length]
  cases e : ixN ds.length i with
  | none => rw [e] at h; cases h
  | some j =>
    rw [e] at h
    obtain ⟨v, h1, h2⟩ := r.get (show ds[j]? = some d from h)
    exact ⟨v, h1, h2⟩
def keyD : D → Option Key
  | .int i => some (.inl i)
  | .str x => some (.inr x)
  | _ => none
def lookD (kvs : List (Key × D)) (k : Key) : Option D := (kvs.find? fun kv => decide (kv.1 = k)).map (·.2)
def dicOf (st : Sto) : D → Option (List (Key × D))
  | .obj n => match st[n]? with
    | some (.dic kvs) => some kvs
    | _ => none
  | _ => none
def ixD (a i : D) : M D := fun st => match seqOf st a with
  | some xs => match i with
    | .int k => match atI xs k with
      | some d => .ok d st
      | none => .bad
    | _ => .bad
  | none => match dicOf st a with
    | some kvs => match keyD i with
      | some k => match lookD kvs k with
        | some d => .ok d st
        | none => .bad
      | none => .bad
    | none => match a, i with
      | .str z, .int k => if szOk z.length then (match atI z.cps.toList k with
        | some c => .ok (.str ⟨#[c]⟩) st
        | none => .bad) else .bad
      | _, _ => .bad
theorem look_rel {K : PySem.W.Frag} {ι : Ix} {H : Hp} : ∀ {ps : List (Key × V)} {kvs : List (Key × D)} (k : Key), Rkv K ι H ps kvs → (∀ d, lookD kvs k = some d → ∃ v, valV ps k = some v ∧ Rp K ι H v d) ∧ (lookD kvs k = none → valV ps k = none)
  | _, _, k, .nil => ⟨fun d h => (nomatch h), fun _ => rfl⟩
  | p :: ps, q :: kvs, k, .cons ⟨e, r⟩ t => by
    have ih := look_rel k t
    by_cases z : q.1 = k
    · have z' : p.1 = k := e.trans z
      constructor
      · intro d h
        have hd : d = q.2 := by
          simp only [lookD, List.find?_cons, z, decide_true, Option.map_some, Option.some.injEq] at h
          exact h.symm
        subst hd
        refine ⟨p.2, ?_, r⟩
        simp only [valV, List.find?_cons, z', decide_true, Option.map_some]
      · intro h
        simp only [lookD, List.find?_cons, z, decide_true, Option.map_some] at h
        cases h
    · have z' : ¬ p.1 = k := fun w => z (e.symm.trans w)
      have e1 : lookD (q :: kvs) k = lookD kvs k := by simp only [lookD, List.find?_cons, z, decide_false]
      have e2 : valV (p :: ps) k = valV ps k := by simp only [valV, List.find?_cons, z', decide_false]
      rw [e1, e2]
      exact ih
theorem dic_of {C : Ctx} {ι : Ix} {H : Hp} {st : Sto} {x : V} {d : D} {kvs : List (Key × D)} (R : Rl C ι H st) (r : Rp C.K ι H x d) (h : dicOf st d = some kvs) : ∃ n a ps, d = .obj n ∧ x = .ref a ∧ ι[n]? = some (some a) ∧ H a = some (.dK ps) ∧ Rkv C.K ι H ps kvs := by
  cases r with
  | @obj a n e =>
    obtain ⟨b, e2, q⟩ : ∃ b, ι[n]? = some (some b) ∧ Ob C ι H b (.dic kvs) := by
      cases s : st[n]? with
      | none => simp only [dicOf, s] at h; cases h
      | some o =>
        cases o with
        | dic ys => simp only [dicOf, s, Option.some.injEq] at h; subst h; exact R.get s
        | lst _ => simp only [dicOf, s] at h; cases h
        | ins _ _ => simp only [dicOf, s] at h; cases h
        | dead => simp only [dicOf, s] at h; cases h
    rw [e] at e2
    cases e2
    obtain ⟨ps, e3, r⟩ := q
    exact ⟨n, a, ps, rfl, rfl, e, e3, r⟩
  | dead e => simp only [dicOf, R.dead _ e] at h; cases h
  | _ => simp only [dicOf] at h; cases h
theorem key_of {K : PySem.W.Frag} {ι : Ix} {H : Hp} {x : V} {d : D} {k : Key} (r : Rp K ι H x d) (h : keyD d = some k) : x = kV k := by
  cases r <;> first
    | (simp only [keyD, Option.some.injEq] at h; subst h; rfl)
    | (simp only [keyD] at h; cases h)
def rIxU (K : PySem.W.Frag) : R2 := fun x y H Q => rIx K x y H Q ∨ ∃ a v, x = .ref a ∧ DGet H a y (some v) ∧ Q v H
theorem od_ix {C : Ctx} : OpD C (rIxU C.K) ixD := by
  intro E ι H st x y a b Q R rx ry h
  unfold ixD at h
  cases e1 : seqOf st a with
  | some xs =>
    simp only [e1] at h
    cases ry with
    | int k =>
      cases e2 : atI xs k with
      | none => simp only [e2] at h; exact h.elim
      | some d =>
        simp only [e2] at h
        obtain ⟨p, vs, ex, q, r⟩ := seq_of R rx e1
        obtain ⟨v, ev, rv⟩ := atI_rps r e2
        rcases q with q | q
        · exact .inl (.inl ⟨p, vs, k, v, ex, rfl, q, ev, h.pure R rv⟩)
        · exact .inl (.inr (.inl ⟨p, vs, k, v, ex, rfl, q, ev, h.pure R rv⟩))
    | _ => exact h.elim
  | none =>
    simp only [e1] at h
    cases e2 : dicOf st a with
    | some kvs =>
      simp only [e2] at h
      cases e3 : keyD b with
      | none => simp only [e3] at h; exact h.elim
      | some k =>
        simp only [e3] at h
        cases e4 : lookD kvs k with
        | none => simp only [e4] at h; exact h.elim
        | some d =>
          simp only [e4] at h
          obtain ⟨n, p, ps, _, ex, _, ep, r⟩ := dic_of R rx e2
          obtain ⟨v, ev, rv⟩ := (look_rel k r).1 d e4
          rw [key_of ry e3]
          refine .inr ⟨p, v, ex, ?_, h.pure R rv⟩
          rw [← ev]
          exact DGet.k ep
    | none =>
      simp only [e2] at h
      cases rx with
      | str z =>
        cases ry with
        | int k =>
          simp only at h
          cases c : szOk z.length with
          | false => simp only [c] at h; exact h.elim
          | true =>
            simp only [c, if_true] at h
            cases e4 : atI z.cps.toList k with
            | none => simp only [e4] at h; exact h.elim
            | some d =>
              simp only [e4] at h
              exact .inl (.inr (.inr ⟨z, k, d, rfl, rfl, of_decide_eq_true c, e4, h.pure R (.str _)⟩))
        | _ => exact h.elim
      | _ => first | exact h.elim | (cases ry <;> exact h.elim)
section
variable {X : Cx} {C : Ctx} {E : XK} {a b : Expr} {pos : Pos} {ma mb : Env → M D}
/-- d[k] by values -/
def rDG : R2 := fun x y H Q => ∃ a v, x = .ref a ∧ DGet H a y (some v) ∧ Q v H
theorem ix_dic (hu : X.A.units + 1 < cLine) : IxR X rDG := by
  intro value slice pins s σ H x y v u Q I rx ry h hs
  obtain ⟨a, w, rfl, g, q⟩ := h
  obtain rfl : v = Value.ref a := rx
  have hT := dict_typeIs I g
  unfold subscriptTail
  refine wpAny_bind ?_
  rw [getitemInPython_of_ne hT.not_modules]
  refine wpAny_bind (wpAny_specialOf hT PySem.F.slot_dict_getitem.lookup ?_)
  have step : wpAny (model X.prog X.w) X.A (subscripted slice false (.ref a) u) (fun r s3 => wpAny (model X.prog X.w) X.A (letTemporaryGo value (.ref a) r >>= fun _ => pure r) (EP X pins σ Q) X.xe s3) X.xe s := by
    rw [hs]
    refine wpAny_operating ?_
    exact d_getItem hu I g ry fun w' s3 I3 rw' => wpAny_bind (wpAny_letTemporaryGo (wpAny_pure ⟨w, H, I3, rw', q⟩))
  first
    | exact wpAny_pure (wpAny_bind step)
    | exact wpAny_bind (wpAny_pure (wpAny_bind step))
    | exact wpAny_bind step
theorem ix_U (hu : X.A.units + 1 < cLine) : IxR X (rIxU X.K) := ix_seq.or (ix_dic hu)
theorem w_ix (hK : X.K = C.K) (hu : X.A.units + 1 < cLine) (ha : PE X a (rdE C E ma)) (hb : PE X b (rdE C E mb)) (hs : PlainIx b := by exact fun _ _ => rfl) : PE X (.Subscript a b pos) (rdE C E (eOp ixD ma mb)) :=
  (pe_ix (ix_U hu) ha hb hs).mono fun _ _ _ => rd_op (by rw [hK]; exact od_ix)
end

/-! ### slices -/
def cutL {α : Type} (xs : List α) (lo hi : Option Int) : List α := (xs.drop (HT.sIx xs.length 0 lo)).take (HT.sIx xs.length xs.length hi - HT.sIx xs.length 0 lo)
theorem cutL_rps {K : PySem.W.Frag} {ι : Ix} {H : Hp} {vs : List V} {ds : List D} (lo hi : Option Int) (r : Rps K ι H vs ds) : Rps K ι H (cutV vs lo hi) (cutL ds lo hi) := by
  unfold cutV cutL
  rw [r.length]
  exact (r.drop _).take _
def sliceD (a : D) (lo hi : Option Int) : M D := fun st => match a with
  | .tup xs => .ok (.tup (cutL xs lo hi)) st
  | .str z => if szOk z.length then .ok (.str (Txt.slice z lo hi)) st else .bad
  | a => match lstOf st a with
    | some xs => .ok (.lst (cutL xs lo hi)) st
    | none => .bad
def oNone : Env → M (Option Int) := fun _ => pure none
def asI : D → M (Option Int)
  | .int i => pure (some i)
  | _ => bad
def oSome (a : Env → M D) : Env → M (Option Int) := fun env => a env >>= asI
def eSlice (a : Env → M D) (l h : Env → M (Option Int)) : Env → M D := fun env => a env >>= fun x => l env >>= fun lo => h env >>= fun hi => sliceD x lo hi
section
variable {X : Cx} {C : Ctx} {E : XK} {a b : Expr} {lo hi : Option Expr} {pos p2 : Pos} {ma : Env → M D} {ml mh : Env → M (Option Int)}
theorem o_none : PO X none (rdO C E oNone) := ⟨fun pins s σ H Q I ⟨env, ι, st, re, R, q⟩ => (po_none (X := X)).run pins s σ H Q I (Pst.pure (rel := RelI) q R rfl)⟩
theorem o_some (ha : PE X a (rdE C E ma)) : PO X (some a) (rdO C E (oSome ma)) := ⟨fun pins s σ H Q I ⟨env, ι, st, re, R, q⟩ => (po_some ha).run pins s σ H Q I
  ⟨env, ι, st, re, R, (Pst.bind (rel := Rel1 C.K) q).mono fun x H1 ⟨d, ι1, st1, s1, R1, r1, q1⟩ => by
    cases r1 with
    | int i => exact ⟨i, rfl, Pst.pure (rel := RelI) q1 R1 rfl⟩
    | _ => exact q1.elim⟩⟩
def rSlU (K : PySem.W.Frag) : V → Option Int → Option Int → Hp → VK → Prop := fun x lo hi H Q => rSlA K x lo hi H Q ∨ (rSlL K x lo hi H Q ∨ C8.rSlX x lo hi H Q)
theorem sl_U : SlR X (rSlU X.K) := sl_tupA.or (sl_list.or C8.sl_txt)
theorem cut_whole {α : Type} (xs : List α) (lo hi : Option Int) (h : HT.sIx xs.length 0 lo = 0 ∧ HT.sIx xs.length xs.length hi = xs.length) : cutL xs lo hi = xs := by
  unfold cutL
  rw [h.1, h.2]
  simp
theorem rd_slice {E : XK} {ι : Ix} {H : Hp} {st : Sto} {x : V} {d : D} {lo hi : Option Int} {Q : VK} (R : Rl C ι H st) (r : Rp C.K ι H x d) (h : Pst C (Rel1 C.K) E ι H Q (sliceD d lo hi st)) : rSlU C.K x lo hi H Q := by
  unfold sliceD at h
  split at h
  · rename_i xs
    cases r with
    | @tup p vs _ q r =>
      refine .inl ⟨p, vs, rfl, q.t, fun w => ?_, fun w a np => new_tup R (cutL_rps lo hi r) h np⟩
      refine h.pure R (.tup q ?_)
      rw [cut_whole xs lo hi (by rw [← r.length]; exact w)]
      exact r
  · cases r
    rename_i z
    cases c : szOk z.length with
    | false => simp only [c] at h; exact h.elim
    | true =>
      simp only [c, if_true] at h
      exact .inr (.inr ⟨z, rfl, of_decide_eq_true c, h.pure R (.str _)⟩)
  · cases e : lstOf st d with
    | none => simp only [e] at h; exact h.elim
    | some xs =>
      simp only [e] at h
      obtain ⟨p, vs, ex, q, r⟩ := lst_of R r e
      exact .inr (.inl ⟨p, vs, ex, .inl q, fun a np => new_lst R (cutL_rps lo hi r) h np⟩)
theorem w_slice (hK : X.K = C.K) (ha : PE X a (rdE C E ma)) (hl : PO X lo (rdO C E ml)) (hh : PO X hi (rdO C E mh)) : PE X (.Subscript a (.Slice lo hi none p2) pos) (rdE C E (eSlice ma ml mh)) :=
  (pe_slice sl_U ha hl hh).mono fun σ H Q ⟨env, ι, st, re, R, q⟩ => ⟨env, ι, st, re, R, (Pst.bind (rel := Rel1 C.K) q).mono fun x H1 ⟨d, ι1, st1, s1, R1, r1, q1⟩ =>
    ⟨env, ι1, st1, re.step s1, R1, (Pst.bind (rel := RelI) q1).mono fun l H2 ⟨l', ι2, st2, s2, R2, e2, q2⟩ => by
      obtain rfl : l = l' := e2
      exact ⟨env, ι2, st2, re.step (s1.trans s2), R2, (Pst.bind (rel := RelI) q2).mono fun h H3 ⟨h', ι3, st3, s3, R3, e3, q3⟩ => by
        obtain rfl : h = h' := e3
        rw [hK]
        exact rd_slice R3 (Rp.step (s2.trans s3) r1) q3⟩⟩⟩
end

/-! ### ==, !=, is, in -/
def allSome {α β : Type} (f : α → Option β) : List α → Option (List β)
  | [] => some []
  | x :: xs => match f x, allSome f xs with
    | some y, some ys => some (y :: ys)
    | _, _ => none
mutual
def toPy : D → Option PyData
  | .non => some .none
  | .bl b => some (.bool b)
  | .int i => some (.int i)
  | .str x => some (.str x)
  | .tup xs => (toPys xs).map .tuple
  | .lst xs => (toPys xs).map .list
  | .obj _ => none
  | .scr _ => none
def toPys : List D → Option (List PyData)
  | [] => some []
  | x :: xs => match toPy x, toPys xs with
    | some y, some ys => some (y :: ys)
    | _, _ => none
end
def resolve (st : Sto) (d : D) : D := match d with
  | .obj n => match st[n]? with
    | some (.lst xs) => .lst xs
    | _ => .obj n
  | d => d
mutual
theorem dp_of {K : PySem.W.Frag} {ι : Ix} {H : Hp} : ∀ {v : V} {d : D} {p : PyData}, Rp K ι H v d → toPy d = some p → Dp K H v p
  | _, _, _, .non, h => by simp only [toPy, Option.some.injEq] at h; subst h; exact .non
  | _, _, _, .bl b, h => by simp only [toPy, Option.some.injEq] at h; subst h; exact .bl b
  | _, _, _, .int i, h => by simp only [toPy, Option.some.injEq] at h; subst h; exact .int i
  | _, _, _, .str x, h => by simp only [toPy, Option.some.injEq] at h; subst h; exact .str x
  | _, .tup ds, p, .tup q r, h => by
    cases e : toPys ds with
    | none => simp only [toPy, e, Option.map_none] at h; cases h
    | some ps =>
      simp only [toPy, e, Option.map_some, Option.some.injEq] at h
      subst h
      exact .tup q.t (dps_of r e)
  | _, .lst ds, p, .lst q r, h => by
    cases e : toPys ds with
    | none => simp only [toPy, e, Option.map_none] at h; cases h
    | some ps =>
      simp only [toPy, e, Option.map_some, Option.some.injEq] at h
      subst h
      exact .lst q.l (dps_of r e)
  | _, _, _, .obj _, h => by simp only [toPy] at h; cases h
  | _, _, _, .dead _, h => by simp only [toPy] at h; cases h
  | _, _, _, .scr _, h => by simp only [toPy] at h; cases h
theorem dps_of {K : PySem.W.Frag} {ι : Ix} {H : Hp} : ∀ {vs : List V} {ds : List D} {ps : List PyData}, Rps K ι H vs ds → toPys ds = some ps → DpAll K H vs ps
  | _, _, _, .nil, h => by simp only [toPys, Option.some.injEq] at h; subst h; exact .nil
  | _, d :: ds, ps, .cons r t, h => by
    cases e : toPy d with
    | none => simp only [toPys, e] at h; cases h
    | some y =>
      cases e2 : toPys ds with
      | none => simp only [toPys, e, e2] at h; cases h
      | some ys =>
        simp only [toPys, e, e2, Option.some.injEq] at h
        subst h
        exact .cons (dp_of r e) (dps_of t e2)
end
theorem dp_res {C : Ctx} {ι : Ix} {H : Hp} {st : Sto} {v : V} {d : D} {p : PyData} (R : Rl C ι H st) (r : Rp C.K ι H v d) (h : toPy (resolve st d) = some p) : Dp C.K H v p := by
  cases r with
  | @obj a n e =>
    cases s : st[n]? with
    | none => simp only [resolve, s, toPy] at h; cases h
    | some o =>
      cases o with
      | lst xs =>
        simp only [resolve, s] at h
        obtain ⟨b, e2, vs, q, r⟩ := R.get s
        rw [e] at e2
        cases e2
        cases e3 : toPys xs with
        | none => simp only [toPy, e3, Option.map_none] at h; cases h
        | some ps =>
          simp only [toPy, e3, Option.map_some, Option.some.injEq] at h
          subst h
          exact .lst (.inl (.inl q)) (dps_of r e3)
      | dic _ => simp only [resolve, s, toPy] at h; cases h
      | ins _ _ => simp only [resolve, s, toPy] at h; cases h
      | dead => simp only [resolve, s, toPy] at h; cases h
  | dead e => simp only [resolve, R.dead _ e, toPy] at h; cases h
  | non => exact dp_of (ι := ι) .non h
  | bl b => exact dp_of (ι := ι) (.bl b) h
  | int i => exact dp_of (ι := ι) (.int i) h
  | str x => exact dp_of (ι := ι) (.str x) h
  | tup q r => exact dp_of (.tup q r) h
  | lst q r => exact dp_of (.lst q r) h
  | scr q => simp only [resolve, toPy] at h; cases h
def eqD (neg : Bool) (a b : D) : M D := fun st => match toPy (resolve st a), toPy (resolve st b) with
  | some p, some q => okIf (SeqAt.shaped p && SeqAt.shaped q) (.bl (if neg then !PyData.eqv p q else PyData.eqv p q)) st
  | _, _ => .bad
def rEqU (K : PySem.W.Frag) (neg : Bool) : R2 := fun x y H Q => if neg then rNeD K x y H Q else rEqD K x y H Q
theorem od_eq {C : Ctx} {neg : Bool} : OpD C (rEqU C.K neg) (eqD neg) := by
  intro E ι H st x y a b Q R rx ry h
  unfold eqD at h
  cases e1 : toPy (resolve st a) with
  | none => simp only [e1] at h; exact h.elim
  | some p =>
    cases e2 : toPy (resolve st b) with
    | none => simp only [e1, e2] at h; exact h.elim
    | some q =>
      simp only [e1, e2] at h
      obtain ⟨c, h⟩ := okIf_cases h
      obtain ⟨c1, c2⟩ := Bool.and_eq_true_iff.mp c
      cases neg with
      | true => exact ⟨p, q, dp_res R rx e1, dp_res R ry e2, c1, c2, h.pure R (.bl _)⟩
      | false => exact ⟨p, q, dp_res R rx e1, dp_res R ry e2, c1, c2, h.pure R (.bl _)⟩
/-- is None, is not None; is True .. -/
def liveB (st : Sto) : D → Bool
  | .obj n => match st[n]? with
    | some .dead => false
    | _ => true
  | _ => true
def isD (neg : Bool) (a b : D) : M D := fun st => match b with
  | .non => if liveB st a then .ok (.bl (xor neg (match a with | .non => true | _ => false))) st else .bad
  | .bl k => match a with
    | .bl j => .ok (.bl (xor neg (decide (j = k)))) st
    | _ => .bad
  | _ => .bad
def rIsU (neg : Bool) : R2 := fun x y H Q => (y = .non ∧ Q (.bl (xor neg (decide (x = .non)))) H) ∨ ∃ a b : Bool, x = .bl a ∧ y = .bl b ∧ Q (.bl (xor neg (decide (a = b)))) H
theorem od_is {C : Ctx} {neg : Bool} : OpD C (rIsU neg) (isD neg) := by
  intro E ι H st x y a b Q R rx ry h
  cases ry with
  | non =>
    refine .inl ⟨rfl, ?_⟩
    simp only [isD] at h
    cases c : liveB st a with
    | false => simp only [c, Bool.false_eq_true, if_false] at h; exact h.elim
    | true =>
      simp only [c, if_true] at h
      cases rx with
      | non => exact Pst.pure (rel := Rel1 C.K) h R (.bl _)
      | dead e => simp only [liveB, R.dead _ e] at c; cases c
      | _ => exact Pst.pure (rel := Rel1 C.K) h R (.bl _)
  | bl k =>
    cases rx with
    | bl j => exact .inr ⟨j, k, rfl, rfl, Pst.pure (rel := Rel1 C.K) h R (.bl _)⟩
    | _ => exact h.elim
  | _ => exact h.elim
/-- flat things as values -/
def tv : D → V
  | .bl b => .bl b
  | .int i => .int i
  | .str x => .str x
  | _ => .non
def flatD : D → Bool
  | .non | .bl _ | .int _ | .str _ => true
  | _ => false
theorem tv_of {K : PySem.W.Frag} {ι : Ix} {H : Hp} {v : V} {d : D} (r : Rp K ι H v d) (f : flatD d = true) : v = tv d ∧ flatV v = true := by
  cases r <;> first
    | exact ⟨rfl, rfl⟩
    | (simp only [flatD] at f; cases f)
theorem tvs_of {K : PySem.W.Frag} {ι : Ix} {H : Hp} : ∀ {vs : List V} {ds : List D}, Rps K ι H vs ds → ds.all flatD = true → vs = ds.map tv ∧ vs.all flatV = true
  | _, _, .nil, _ => ⟨rfl, rfl⟩
  | _, _, .cons r t, f => by
    rw [List.all_cons, Bool.and_eq_true] at f
    obtain ⟨a1, a2⟩ := tv_of r f.1
    obtain ⟨b1, b2⟩ := tvs_of t f.2
    refine ⟨by rw [List.map_cons, ← a1, ← b1], ?_⟩
    rw [List.all_cons, a2, b2]
    rfl
def inD (neg : Bool) (a b : D) : M D := fun st => match seqOf st b with
  | some xs => okIf (flatD a && xs.all flatD) (.bl (if neg then !inV (tv a) (xs.map tv) else inV (tv a) (xs.map tv))) st
  | none => match dicOf st b, keyD a with
    | some kvs, some k => .ok (.bl (if neg then !(lookD kvs k).isSome else (lookD kvs k).isSome)) st
    | _, _ => .bad
def rInU (K : PySem.W.Frag) (neg : Bool) : R2 := fun x y H Q => rIn K neg x y H Q ∨ ∃ a o, y = .ref a ∧ DGet H a x o ∧ Q (.bl (if neg then !o.isSome else o.isSome)) H
theorem od_in {C : Ctx} {neg : Bool} : OpD C (rInU C.K neg) (inD neg) := by
  intro E ι H st x y a b Q R rx ry h
  unfold inD at h
  cases e1 : seqOf st b with
  | some xs =>
    simp only [e1] at h
    obtain ⟨c, h⟩ := okIf_cases h
    obtain ⟨c1, c2⟩ := Bool.and_eq_true_iff.mp c
    obtain ⟨p, vs, ex, q, r⟩ := seq_of R ry e1
    obtain ⟨a1, a2⟩ := tv_of rx c1
    obtain ⟨b1, b2⟩ := tvs_of r c2
    refine .inl ⟨p, vs, ex, q, a2, b2, ?_⟩
    rw [a1, b1]
    exact h.pure R (.bl _)
  | none =>
    simp only [e1] at h
    cases e2 : dicOf st b with
    | none => simp only [e2] at h; exact h.elim
    | some kvs =>
      cases e3 : keyD a with
      | none => simp only [e2, e3] at h; exact h.elim
      | some k =>
        simp only [e2, e3] at h
        obtain ⟨n, p, ps, _, ex, _, ep, r⟩ := dic_of R ry e2
        rw [key_of rx e3]
        refine .inr ⟨p, _, ex, DGet.k ep, ?_⟩
        have es : (valV ps k).isSome = (lookD kvs k).isSome := by
          cases e4 : lookD kvs k with
          | none => rw [(look_rel k r).2 e4]; rfl
          | some d =>
            obtain ⟨v, ev, _⟩ := (look_rel k r).1 d e4
            rw [ev]
            rfl
        rw [es]
        exact h.pure R (.bl _)
section
variable {X : Cx}
theorem op_eqU (hu : X.A.units + 64 < cLine) : OpR X (compareOp .Eq) (rEqU X.K false) := fun pins s σ H x y v u Q I rx ry h => op_eqD hu pins s σ H x y v u Q I rx ry h
theorem op_neU (hu : X.A.units + 64 < cLine) : OpR X (compareOp .NotEq) (rEqU X.K true) := fun pins s σ H x y v u Q I rx ry h => op_neD hu pins s σ H x y v u Q I rx ry h
theorem op_isU : OpR X (compareOp .Is) (rIsU false) := fun pins s σ H x y v u Q I rx ry h => by
  rcases h with ⟨e, q⟩ | ⟨a, b, e1, e2, q⟩
  · exact op_isN pins s σ H x y v u Q I rx ry ⟨e, by rw [Bool.false_xor] at q; exact q⟩
  · exact op_isBl pins s σ H x y v u Q I rx ry ⟨a, b, e1, e2, by rw [Bool.false_xor] at q; exact q⟩
theorem op_isNotU : OpR X (compareOp .IsNot) (rIsU true) := fun pins s σ H x y v u Q I rx ry h => by
  rcases h with ⟨e, q⟩ | ⟨a, b, e1, e2, q⟩
  · exact op_notN pins s σ H x y v u Q I rx ry ⟨e, by rw [Bool.true_xor] at q; exact q⟩
  · exact op_notBl pins s σ H x y v u Q I rx ry ⟨a, b, e1, e2, by rw [Bool.true_xor] at q; exact q⟩
theorem op_inU (hu : X.A.units + 1 < cLine) : OpR X (compareOp .In) (rInU X.K false) := fun pins s σ H x y v u Q I rx ry h => by
  rcases h with h | ⟨a, o, rfl, g, q⟩
  · exact op_in_seq pins s σ H x y v u Q I rx ry h
  · obtain rfl : u = Value.ref a := ry
    exact d_in hu I g rx fun s3 I3 => ⟨.bl o.isSome, H, I3, rfl, q⟩
theorem op_ninU (hu : X.A.units + 1 < cLine) : OpR X (compareOp .NotIn) (rInU X.K true) := fun pins s σ H x y v u Q I rx ry h => by
  rcases h with h | ⟨a, o, rfl, g, q⟩
  · exact op_notIn_seq pins s σ H x y v u Q I rx ry h
  · obtain rfl : u = Value.ref a := ry
    exact d_notIn hu I g rx fun s3 I3 => ⟨.bl (!o.isSome), H, I3, rfl, q⟩
end
end Mir

namespace Mir
open PySem PySem.Spec PyProof.Rows L2

/-! ### targets -/
inductive Tg where
  | name (i : Nat) | tup (ts : List Tg) | skip
mutual
def tgD : Tg → D → Env → Option Env
  | .name i, d, env => some (env.set i (some d))
  | .tup ts, .tup ds, env => tgDs ts ds env
  | .tup ts, .lst ds, env => tgDs ts ds env
  | _, _, _ => none
def tgDs : List Tg → List D → Env → Option Env
  | [], [], env => some env
  | t :: ts, d :: ds, env => match tgD t d env with
    | some env' => tgDs ts ds env'
    | none => none
  | _, _, _ => none
end
mutual
def slots : Tg → List Nat
  | .name i => [i]
  | .tup ts => slotss ts
  | .skip => []
def slotss : List Tg → List Nat
  | [] => []
  | t :: ts => slots t ++ slotss ts
end
/-- only the slots in vs may differ -/
def Off (vs : List Nat) (σ σ' : L2.St) : Prop := σ'.length = σ.length ∧ ∀ i, i ∉ vs → σ'[i]? = σ[i]?
theorem Off.refl (σ : L2.St) : Off [] σ σ := ⟨rfl, fun _ _ => rfl⟩
theorem Off.trans {vs ws : List Nat} {σ σ1 σ2 : L2.St} (a : Off vs σ σ1) (b : Off ws σ1 σ2) : Off (vs ++ ws) σ σ2 :=
  ⟨b.1.trans a.1, fun i h => by
    rw [List.mem_append] at h
    rw [b.2 i fun z => h (.inr z), a.2 i fun z => h (.inl z)]⟩
def rdG (C : Ctx) (t : Tg) : TG := fun v σ H Q => ∃ d env ι, Rp C.K ι H v d ∧ REnv C.K ι H σ env ∧ ∃ env', tgD t d env = some env' ∧ ∀ σ', REnv C.K ι H σ' env' → Off (slots t) σ σ' → Q σ' H
def rdGs (C : Ctx) (ts : List Tg) : TGs := fun vs σ H Q => ∃ ds env ι, Rps C.K ι H vs ds ∧ REnv C.K ι H σ env ∧ ∃ env', tgDs ts ds env = some env' ∧ ∀ σ', REnv C.K ι H σ' env' → Off (slotss ts) σ σ' → Q σ' H
section
variable {X : Cx} {C : Ctx} {pos : Pos}
theorem _root_.L2.PG.mono {e : Expr} {t t' : TG} (h : PG X e t) (m : ∀ v σ H Q, t' v σ H Q → t v σ H Q) : PG X e t' := ⟨fun pins s σ H v u Q I r q => h.run pins s σ H v u Q I r (m _ _ _ _ q)⟩
theorem _root_.L2.PGs.mono {e : List Expr} {t t' : TGs} (h : PGs X e t) (m : ∀ v σ H Q, t' v σ H Q → t v σ H Q) : PGs X e t' := ⟨fun pins s σ H v u Q I r q => h.run pins s σ H v u Q I r (m _ _ _ _ q)⟩
theorem g_name (i : Nat) {x : Str} (hN : X.N.Nodup) (hi : X.N[i]? = some x := by rfl) (hx : Loc X.env.scope x := by first | exact Or.inl rfl | exact Or.inr rfl) (hf : X.fn x = true ∨ X.env.scope.names.lookup x = some .local := by first | exact .inl rfl | exact .inr rfl) : PG X (.Name x pos) (rdG C (.name i)) :=
  (pg_name hN hi hx hf).mono fun v σ H Q ⟨d, env, ι, r, re, env', e, q⟩ => by
    simp only [tgD, Option.some.injEq] at e
    subst e
    refine q _ (re.set i r) ⟨List.length_set .., fun j hj => ?_⟩
    rw [List.getElem?_set_ne (by intro z; exact hj (by simp [slots, z]))]
theorem gs_nil : PGs X [] (rdGs C []) := pgs_nil.mono fun vs σ H Q ⟨ds, env, ι, r, re, env', e, q⟩ => by
  cases r with
  | nil =>
    simp only [tgDs, Option.some.injEq] at e
    subst e
    exact ⟨rfl, q σ re (Off.refl σ)⟩
  | cons r t => simp only [tgDs] at e; cases e
theorem gs_cons {e : Expr} {es : List Expr} {t : Tg} {ts : List Tg} (h1 : PG X e (rdG C t)) (h2 : PGs X es (rdGs C ts)) (hs : (assignEach (e :: es) X.env).map (·.2) = assign e X.env :: (assignEach es X.env).map (·.2) := by rfl) : PGs X (e :: es) (rdGs C (t :: ts)) :=
  (pgs_cons h1 h2 hs).mono fun vs σ H Q ⟨ds, env, ι, r, re, env', e, q⟩ => by
    cases r with
    | nil => simp only [tgDs] at e; cases e
    | @cons v vs d ds r rs =>
      cases e1 : tgD t d env with
      | none => simp only [tgDs, e1] at e; cases e
      | some env1 =>
        simp only [tgDs, e1] at e
        exact ⟨v, vs, rfl, d, env, ι, r, re, env1, e1, fun σ1 re1 o1 => ⟨ds, env1, ι, rs, re1, env', e, fun σ2 re2 o2 => q σ2 re2 (o1.trans o2)⟩⟩
theorem _root_.L2.PG.or {e : Expr} {t1 t2 : TG} (h1 : PG X e t1) (h2 : PG X e t2) : PG X e fun v σ H Q => t1 v σ H Q ∨ t2 v σ H Q :=
  ⟨fun pins s σ H v u Q I r q => q.elim (h1.run pins s σ H v u Q I r) (h2.run pins s σ H v u Q I r)⟩
theorem tgDs_len : ∀ (ts : List Tg) (ds : List D) (env env' : Env), tgDs ts ds env = some env' → ds.length = ts.length := by
  intro ts
  induction ts with
  | nil => intro ds env env' h; cases ds with | nil => rfl | cons _ _ => simp only [tgDs] at h; cases h
  | cons t ts ih =>
    intro ds env env' h
    cases ds with
    | nil => simp only [tgDs] at h; cases h
    | cons d ds =>
      cases e1 : tgD t d env with
      | none => simp only [tgDs, e1] at h; cases h
      | some env1 => simp only [tgDs, e1] at h; rw [List.length_cons, List.length_cons, ih ds env1 env' h]
theorem g_tup {es : List Expr} {k : Nat} {ts : List Tg} (hK : X.K = C.K) (hc : X.calm = true) (h : PGs X es (rdGs C ts)) (hn : (assignEach es X.env).length = ts.length := by rfl) (hst : (assignEach es X.env).findIdx? (·.1) = none := by rfl) : PG X (.Tuple es k pos) (rdG C (.tup ts)) :=
  ((pg_tup hc h hn hst).or (pg_unl hc h hn hst)).mono fun v σ H Q ⟨d, env, ι, r, re, env', e, q⟩ => by
    cases r with
    | @tup a xs ds j rs =>
      simp only [tgD] at e
      rw [hK]
      exact .inl ⟨a, xs, rfl, j.t, by rw [rs.length, tgDs_len ts ds env env' e], ds, env, ι, rs, re, env', e, q⟩
    | @lst a xs ds j rs =>
      simp only [tgD] at e
      rw [hK]
      exact .inr ⟨a, xs, rfl, j.l, by rw [rs.length, tgDs_len ts ds env env' e], ds, env, ι, rs, re, env', e, q⟩
    | _ => simp only [tgD] at e; cases e
end

/-! ### statements -/
inductive Fl where
  | nx | brk | cnt | ret (d : D)
inductive FlV where
  | nx (σ : L2.St) | brk (σ : L2.St) | cnt (σ : L2.St) | ret (v : V)
def RelFl (K : PySem.W.Frag) : Ix → Hp → FlV → Fl × Env → Prop := fun ι H f g => match f, g with
  | .nx σ, (.nx, env) => REnv K ι H σ env
  | .brk σ, (.brk, env) => REnv K ι H σ env
  | .cnt σ, (.cnt, env) => REnv K ι H σ env
  | .ret v, (.ret d, _) => Rp K ι H v d
  | _, _ => False
def endQ (D : Ends) : FlV → Hp → Prop
  | .nx σ, H => D.nx σ H
  | .brk σ, H => D.bk σ H
  | .cnt σ, H => D.ct σ H
  | .ret v, H => D.rt v H
abbrev SM := Env → M (Fl × Env)
def rdS (C : Ctx) (E : XK) (m : SM) : TS := fun D σ H => ∃ env ι st, REnv C.K ι H σ env ∧ Rl C ι H st ∧ Pst C (RelFl C.K) E ι H (endQ D) (m env st)
def sNil : SM := fun env => pure (.nx, env)
def sSeq (a b : SM) : SM := fun env => a env >>= fun r => match r.1 with
  | .nx => b r.2
  | _ => pure r
def sSet (t : Tg) (a : Env → M D) : SM := fun env => a env >>= fun d => fun st => match tgD t d env with
  | some env' => .ok (.nx, env') st
  | none => .bad
def sExpr (a : Env → M D) : SM := fun env => a env >>= fun _ => pure (.nx, env)
def sRet (a : Env → M D) : SM := fun env => a env >>= fun d => pure (.ret d, env)
def sRetN : SM := fun env => pure (.ret .non, env)
def sIf (t : Env → M Bool) (a b : SM) : SM := fun env => t env >>= fun c => if c then a env else b env
def sBrk : SM := fun env => pure (.brk, env)
def sCnt : SM := fun env => pure (.cnt, env)
def sPar (i j : Nat) (a b : Env → M D) : SM := fun env => a env >>= fun x => b env >>= fun y => pure (.nx, (env.set i (some x)).set j (some y))
section
variable {X : Cx} {C : Ctx} {E : XK} {e c : Expr} {s : Stmt} {rest : List Stmt} {pos : Pos} {ma mb : Env → M D} {m1 m2 : SM} {mt : Env → M Bool}
theorem s_nil : PSs X [] (rdS C E sNil) := pss_nil.mono fun D σ H ⟨env, ι, st, re, R, q⟩ => Pst.pure (rel := RelFl C.K) (b := .nx σ) q R re
theorem rd_seq {D : Ends} {σ : L2.St} {H : Hp} (q : rdS C E (sSeq m1 m2) D σ H) : tSeq (rdS C E m1) (rdS C E m2) D σ H := by
  obtain ⟨env, ι, st, re, R, q⟩ := q
  refine ⟨env, ι, st, re, R, (Pst.bind (rel := RelFl C.K) q).mono ?_⟩
  rintro f H1 ⟨⟨g, env1⟩, ι1, st1, s1, R1, r1, q1⟩
  cases f <;> cases g <;> first
    | exact r1.elim
    | exact ⟨env1, ι1, st1, r1, R1, q1⟩
    | exact (Pst.pure (rel := RelFl C.K) (Q := endQ D) (b := .brk _) q1 R1 r1 : D.bk _ _)
    | exact (Pst.pure (rel := RelFl C.K) (Q := endQ D) (b := .cnt _) q1 R1 r1 : D.ct _ _)
    | exact (Pst.pure (rel := RelFl C.K) (Q := endQ D) (b := .ret _) q1 R1 r1 : D.rt _ _)
theorem s_cons (h1 : PS X s (rdS C E m1)) (h2 : PSs X rest (rdS C E m2)) : PSs X (s :: rest) (rdS C E (sSeq m1 m2)) := (pss_cons h1 h2).mono fun _ _ _ => rd_seq
theorem s_one (h1 : PS X s (rdS C E m1)) : PSs X [s] (rdS C E m1) := pss_one h1
theorem s_pass : PS X (.Pass pos) (rdS C E sNil) := ps_pass.mono fun D σ H ⟨env, ι, st, re, R, q⟩ => Pst.pure (rel := RelFl C.K) (b := .nx σ) q R re
theorem s_break : PS X (.Break pos) (rdS C E sBrk) := ps_break.mono fun D σ H ⟨env, ι, st, re, R, q⟩ => Pst.pure (rel := RelFl C.K) (b := .brk σ) q R re
theorem s_continue : PS X (.Continue pos) (rdS C E sCnt) := ps_continue.mono fun D σ H ⟨env, ι, st, re, R, q⟩ => Pst.pure (rel := RelFl C.K) (b := .cnt σ) q R re
theorem s_expr (he : PE X e (rdE C E ma)) (hs : swapsWith e none pos.line X.env = pure false := by rfl) : PS X (.Expr e pos) (rdS C E (sExpr ma)) :=
  (ps_expr he hs).mono fun D σ H ⟨env, ι, st, re, R, q⟩ => ⟨env, ι, st, re, R, (Pst.bind (rel := Rel1 C.K) q).mono fun x H1 ⟨d, ι1, st1, s1, R1, r1, q1⟩ => Pst.pure (rel := RelFl C.K) (b := .nx σ) q1 R1 (re.step s1)⟩
theorem s_ret (he : PE X e (rdE C E ma)) : PS X (.Return (some e) pos) (rdS C E (sRet ma)) :=
  (ps_ret he).mono fun D σ H ⟨env, ι, st, re, R, q⟩ => ⟨env, ι, st, re, R, (Pst.bind (rel := Rel1 C.K) q).mono fun x H1 ⟨d, ι1, st1, s1, R1, r1, q1⟩ => Pst.pure (rel := RelFl C.K) (b := .ret x) q1 R1 r1⟩
theorem s_retN : PS X (.Return none pos) (rdS C E sRetN) := ps_retN.mono fun D σ H ⟨env, ι, st, re, R, q⟩ => Pst.pure (rel := RelFl C.K) (b := .ret .non) q R .non
theorem s_if {a b : List Stmt} (hc : PT X c (rdT C E mt)) (ha : PSs X a (rdS C E m1)) (hb : PSs X b (rdS C E m2)) : PS X (.If c a b pos) (rdS C E (sIf mt m1 m2)) :=
  (ps_if hc ha hb).mono fun D σ H ⟨env, ι, st, re, R, q⟩ => ⟨env, ι, st, re, R, (Pst.bind (rel := RelB) q).mono fun x H1 ⟨d, ι1, st1, s1, R1, r1, q1⟩ => by
    obtain rfl : x = d := r1
    cases x with
    | true => exact ⟨env, ι1, st1, re.step s1, R1, q1⟩
    | false => exact ⟨env, ι1, st1, re.step s1, R1, q1⟩⟩
theorem rd_set {t : Tg} {D : Ends} {σ : L2.St} {H : Hp} (q : rdS C E (sSet t ma) D σ H) : tAsg (rdE C E ma) (rdG C t) D σ H := by
  obtain ⟨env, ι, st, re, R, q⟩ := q
  refine ⟨env, ι, st, re, R, (Pst.bind (rel := Rel1 C.K) q).mono ?_⟩
  rintro x H1 ⟨d, ι1, st1, s1, R1, r1, q1⟩
  cases e1 : tgD t d env with
  | none => simp only [e1] at q1; exact q1.elim
  | some env' =>
    simp only [e1] at q1
    exact ⟨d, env, ι1, r1, re.step s1, env', e1, fun σ' re' _ => Pst.pure (rel := RelFl C.K) (b := .nx σ') q1 R1 re'⟩
theorem s_asg {tg : Expr} {t : Tg} (he : PE X e (rdE C E ma)) (hg : PG X tg (rdG C t)) (hs : swapsWithSole [tg] e pos.line X.env = pure false := by rfl) (hw : swappedStores [tg] e X.env = pure none := by rfl) (h1 : (assignEach [tg] X.env).map (·.2) = [assign tg X.env] := by rfl) : PS X (.Assign [tg] e pos) (rdS C E (sSet t ma)) :=
  (ps_asg he hg hs hw h1).mono fun _ _ _ => rd_set
theorem s_set (i : Nat) {x : Str} {pos' : Pos} (hN : X.N.Nodup) (he : PE X e (rdE C E ma)) (hi : X.N[i]? = some x := by rfl) (hx : Loc X.env.scope x := by first | exact Or.inl rfl | exact Or.inr rfl)
    (hs : swapsWith e (some (.Name x pos')) pos.line X.env = pure false := by rfl) (hf : X.fn x = true ∨ X.env.scope.names.lookup x = some .local := by first | exact .inl rfl | exact .inr rfl) : PS X (.Assign [.Name x pos'] e pos) (rdS C E (sSet (.name i) ma)) :=
  (ps_set hN hi hx he hs hf).mono fun D σ H ⟨env, ι, st, re, R, q⟩ => ⟨env, ι, st, re, R, (Pst.bind (rel := Rel1 C.K) q).mono fun x H1 ⟨d, ι1, st1, s1, R1, r1, q1⟩ => by
    simp only [tgD] at q1
    exact Pst.pure (rel := RelFl C.K) (b := .nx _) q1 R1 ((re.step s1).set i r1)⟩
end

/-! ### a def's promise -/
def spM (C : Ctx) (n : Nat) (m : List D → M D) : Sp := fun vs H Q E => ∃ ds ι st, Rps C.K ι H vs ds ∧ ds.length = n ∧ Rl C ι H st ∧ Pst C (Rel1 C.K) E ι H Q (m ds st)
def outF (r : Fl × Env) : M D := match r.1 with
  | .ret d => pure d
  | .nx => pure .non
  | _ => bad
/-- a def's mirror from its body's: n slots -/
def runB (n : Nat) (b : SM) (ds : List D) : M D := b (ds.map some ++ List.replicate (n - ds.length) none) >>= outF
theorem renv_start {K : PySem.W.Frag} {ι : Ix} {H : Hp} {N : List Str} : ∀ {vs : List V} {ds : List D}, Rps K ι H vs ds → REnv K ι H (L2.start N vs) (ds.map some ++ List.replicate (N.length - ds.length) none) := fun {vs ds} r => by
  have hl := r.length
  unfold L2.start
  refine ⟨by simp [hl], fun i d h => ?_⟩
  by_cases hi : i < ds.length
  · rw [List.getElem?_append_left (by simpa using hi), List.getElem?_map] at h
    have h' : ds[i]? = some d := by
      cases q : ds[i]? with
      | none => rw [q] at h; cases h
      | some x => rw [q] at h; simpa using h
    obtain ⟨v, h1, h2⟩ := r.get h'
    refine ⟨v, ?_, h2⟩
    rw [List.getElem?_append_left (by simp [hl, hi]), List.getElem?_map, h1]
    rfl
  · rw [List.getElem?_append_right (by simpa using hi)] at h
    have := List.mem_of_getElem? h
    rw [List.mem_replicate] at this
    cases this.2
/-- what a body may lean on -/
structure Cap (X : Cx) (C : Ctx) (E : XK) (k : Nat) : Prop where
  hK : X.K = C.K
  calm : X.calm = true
  room : Room k X.A
  nd : X.N.Nodup
  pass : Passes (L2.CX X.prog X.w) X E
theorem Cap.u1 {X : Cx} {C : Ctx} {E : XK} {k : Nat} (c : Cap X C E k) : X.A.units + 1 < cLine := hu_of c.room
theorem Cap.u64 {X : Cx} {C : Ctx} {E : XK} {k : Nat} (c : Cap X C E k) : X.A.units + 64 < cLine := c.room.units
section
variable {P : Program} {w : World} {K : PySem.W.Frag} {mg : Str → Option Value} {base : Heap}
abbrev bodyCx (P : Program) (w : World) (K : PySem.W.Frag) (mg : Str → Option Value) (base : Heap) (N : List Str) (qual : Str) (st : Stmt) (f : Addr) (cdv : Value) (A : Around) (outer : List PySem.Env) (s : Shared) (H : Hp) (E : XK) : Cx :=
  cxOf (L2.CX P w) P w K mg base N qual (defScope st) f cdv A outer s H E
theorem fn_mir {x qual : Str} {st : Stmt} {f : Addr} {fd : FuncData} {N ps : List Str} {k : Nat} (C : Ctx) (hK : C.K = K) (F : Fun K x qual st f fd) (S : FnScope N ps (defScope st)) {b : SM}
    (hb : ∀ (cdv : Value) (A : Around) (outer : List PySem.Env) (s : Shared) (H : Hp) (E : XK), Cap (bodyCx P w K mg base N qual st f cdv A outer s H E) C E k →
      PassesOwn (model P w) (bodyCx P w K mg base N qual st f cdv A outer s H E).A (bodyCx P w K mg base N qual st f cdv A outer s H E).env (bodyCx P w K mg base N qual st f cdv A outer s H E).xe →
      PSs (bodyCx P w K mg base N qual st f cdv A outer s H E) (defBody st) (rdS C E b)) : FnOk P w K mg base (L2.CX P w) (k + 1) f fd ps (spM C ps.length (runB N.length b)) := by
  refine F.okX S (fun vs H Q E h => ?_) fun cdv A outer s H vs Q E hr h => ?_
  · obtain ⟨ds, ι, st, r, e, _⟩ := h
    rw [r.length, e]
  · have tk : Takes (bodyCx P w K mg base N qual st f cdv A outer s H E) (fun cls d _ H' => E cls d H') := takes_of rfl rfl rfl rfl
    refine ⟨_, hb cdv A outer s H E ⟨hK.symm, rfl, hr, S.nd, passes_call tk fun _ _ _ _ z => z⟩ (passes_of rfl), ?_⟩
    obtain ⟨ds, ι, st, r, e, R, q⟩ := h
    refine ⟨_, ι, st, renv_start r, R, (Pst.bind (rel := RelFl C.K) q).mono ?_⟩
    rintro g H1 ⟨⟨t, env1⟩, ι1, st1, s1, R1, r1, q1⟩
    cases g <;> cases t <;> first
      | exact r1.elim
      | exact q1.elim
      | exact Pst.pure (rel := Rel1 C.K) q1 R1 .non
      | exact Pst.pure (rel := Rel1 C.K) q1 R1 r1
end
/-! ### a call of a def -/
def eCall (n : Nat) (m : List D → M D) (dflt : List D) (a : Env → M (List D)) : Env → M D := fun env => a env >>= fun ds => if (ds ++ dflt).length = n then m (ds ++ dflt) else bad
section
variable {X : Cx} {C : Ctx} {E : XK} {k j n : Nat} {x : Str} {p pos : Pos} {e : Expr} {es : List Expr} {f : Addr} {fd : FuncData} {ps : List Str} {m : List D → M D} {dvs : List V} {dus : List Value} {dflt : List D} {mr : Env → M (List D)}
theorem w_call (c : Cap X C E k) (F : FnOk X.prog X.w X.K X.mg X.base (L2.CX X.prog X.w) j f fd ps (spM C n m)) (hj : j ≤ k) (hm : X.mg x = some (.ref f)) (hk : PySem.W.keepIn X.K (.ref f) = true) (hb : Binds X.K fd ps dus) (hd : Vals dvs dus) (hdd : ∀ ι H, Rps C.K ι H dvs dflt)
    (ha : PA X (e :: es) (rdA C E mr)) (hg : Gl X x := by rfl) (hdb : (x == ("__debug__" : Str)) = false := by decide) (he : starEach (e :: es) X.env = (false, eval e X.env) :: starEach es X.env := by rfl) (hpl : (backTo pos (starEach es X.env)).any (·.1) = false := by rfl) :
    PE X (.Call (.Name x p) (e :: es) [] pos) (rdE C E (eCall n m dflt mr)) :=
  (pe_call F (c.room.mono hj) hg hm hk hb hd c.pass ha hdb he hpl).mono fun σ H Q ⟨env, ι, st, re, R, q⟩ => ⟨env, ι, st, re, R, (Pst.bind (rel := RelA C.K) q).mono fun vs H1 ⟨ds, ι1, st1, s1, R1, r1, q1⟩ => by
    replace q1 : Pst C (Rel1 C.K) E ι1 H1 Q ((if (ds ++ dflt).length = n then m (ds ++ dflt) else bad : M D) st1) := q1
    by_cases hl : (ds ++ dflt).length = n
    · rw [if_pos hl] at q1
      exact ⟨ds ++ dflt, ι1, st1, Rps.append r1 (hdd ι1 H1), hl, R1, q1⟩
    · rw [if_neg hl] at q1
      exact q1.elim⟩
end
end Mir

namespace Mir
open PySem PySem.Spec PyProof.Rows L2

/-! ### what is walked -/
abbrev Src := List D × (Sto → Prop)
/-- the iterator gives the items while the source's word holds of the store -/
def ItOk (C : Ctx) (ι0 : Ix) (H0 : Hp) (J : It) (src : Src) : Prop := ∀ (ι : Ix) (H : Hp) (st : Sto) (i : Nat), Stp ι0 H0 ι H → Rl C ι H st → src.2 st →
  (i = src.1.length → J.stop i H) ∧ ∀ d, src.1[i]? = some d → J.go i H ∧ ∀ x H', J.yld i H x H' → Stp ι H ι H' ∧ Rl C ι H' st ∧ Rp C.K ι H' x d
theorem ItOk.step {C : Ctx} {ι0 ι1 : Ix} {H0 H1 : Hp} {J : It} {src : Src} (h : ItOk C ι0 H0 J src) (s : Stp ι0 H0 ι1 H1) : ItOk C ι1 H1 J src := fun ι H st i t => h ι H st i (s.trans t)
def RelIt (C : Ctx) : Ix → Hp → It → Src → Prop := fun ι H J src => ItOk C ι H J src
def rdI (C : Ctx) (E : XK) (m : Env → M Src) : TI := fun σ H R => ∃ env ι st, REnv C.K ι H σ env ∧ Rl C ι H st ∧ Pst C (RelIt C) E ι H R (m env st)
theorem _root_.L2.PI.mono {X : Cx} {tg it : Expr} {t t' : TI} (h : PI X tg it t) (m : ∀ σ H R, t' σ H R → t σ H R) : PI X tg it t' := ⟨fun pins s σ H R I q => h.run pins s σ H R I (m _ _ _ q)⟩

noncomputable def ckM (p : Sto → Prop) : M Unit := fun st => @ite _ (p st) (Classical.propDecidable _) (.ok () st) .bad
theorem ckM_pos {p : Sto → Prop} {st : Sto} (h : p st) : ckM p st = .ok () st := if_pos h
theorem ckM_bind {C : Ctx} {γ δ : Type} {rel2 : Ix → Hp → δ → γ → Prop} {E : XK} {ι : Ix} {H : Hp} {Q : δ → Hp → Prop} {st : Sto} {p : Sto → Prop} {f : Unit → M γ}
    (h : Pst C rel2 E ι H Q ((ckM p >>= f) st)) : p st ∧ Pst C rel2 E ι H Q (f () st) := by
  rw [bind_def] at h
  by_cases hp : p st
  · rw [ckM_pos hp] at h
    exact ⟨hp, h⟩
  · unfold ckM at h
    rw [if_neg hp] at h
    exact h.elim

/-- a list or a tuple, walked -/
def seqSrc (d : D) : M Src := fun st => match seqOf st d with
  | some xs => .ok (xs, fun st' => seqOf st' d = some xs) st
  | none => .bad
def itSeq (a : Env → M D) : Env → M Src := fun env => a env >>= seqSrc
section
variable {X : Cx} {C : Ctx} {E : XK} {a b : Expr} {p pos : Pos} {ma mb : Env → M D} {mr : Env → M (List D)} {tg : Expr}
def iSeq (K : PySem.W.Frag) (tl : TE) : TI := fun σ H R => tl σ H fun x H1 => ∃ a, x = .ref a ∧ (((∃ xs, SqL K H1 a xs) ∧ R (Itl K a) H1) ∨ ((∃ xs, SqT K H1 a xs) ∧ R (Itt K a) H1))
theorem pi_seq {l : Expr} {tl : TE} (hl : PE X l tl) : PI X tg l (iSeq X.K tl) := by
  refine ⟨fun pins s σ H R I h => ?_⟩
  refine thn (hl.run pins s σ H _ I h) fun v s1 ⟨x, H1, I1, r1, q1⟩ => ?_
  obtain ⟨a, rfl, q1⟩ := q1
  cases r1
  have fp : ∀ b ∈ [s1.heap.objs.size], FpOk X pins H1 b := fun b hb => by
    rw [List.mem_singleton] at hb
    rw [hb]
    exact I1.fpOk (Nat.le_refl _) I1.fresh
  rcases q1 with ⟨⟨xs, hq⟩, q⟩ | ⟨⟨xs, hq⟩, q⟩
  · obtain ⟨its, _, pl, _⟩ := I1.list hq
    exact wpAny_pyIter_list pl.isList ⟨s1.heap.objs.size, [s1.heap.objs.size], _, _, H1, rfl, I1.kept (t' := s1.toks) fun b o e => Heap.get?_push_of_some _ e, turn_list a _, ⟨_, Heap.get?_push_size _ rfl, rfl, rfl⟩, fp, q⟩
  · obtain ⟨its, _, pl, _⟩ := I1.tuple hq
    exact wpAny_pyIter_tuple (show s1.heap.IsTuple a its.toArray from pl) ⟨s1.heap.objs.size, [s1.heap.objs.size], _, _, H1, rfl, I1.kept (t' := s1.toks) fun b o e => Heap.get?_push_of_some _ e, turn_tuple a _, ⟨_, Heap.get?_push_size _ rfl, rfl, rfl⟩, fp, q⟩
/-- what is at an address as a list, as a tuple, is one list of values -/
theorem rps_none {K : PySem.W.Frag} {ι : Ix} {H : Hp} {vs : List V} {ds : List D} {i : Nat} (r : Rps K ι H vs ds) (h : i = ds.length) : vs.length ≤ i := by
  rw [r.length, h]
  exact Nat.le_refl _
theorem it_seq {ι0 : Ix} {H0 : Hp} {st0 : Sto} {x : V} {d : D} {ds : List D} {R : It → Hp → Prop} {ι : Ix} {H : Hp} (Rl0 : Rl C ι H st0) (r : Rp C.K ι H x d) (e : seqOf st0 d = some ds)
    (q : ∀ J, ItOk C ι H J (ds, fun st' => seqOf st' d = some ds) → R J H) : ∃ a, x = .ref a ∧ (((∃ xs, SqL C.K H a xs) ∧ R (Itl C.K a) H) ∨ ((∃ xs, SqT C.K H a xs) ∧ R (Itt C.K a) H)) := by
  obtain ⟨a, vs, ex, hq, rs⟩ := seq_of Rl0 r e
  refine ⟨a, ex, ?_⟩
  by_cases ht : ∃ ys, d = .tup ys
  · obtain ⟨ys, rfl⟩ := ht
    cases r with
    | @tup a' xs ds' j rs' =>
      cases ex
      simp only [seqOf, Option.some.injEq] at e
      subst e
      refine .inr ⟨⟨xs, j.t⟩, q _ fun ι1 H1 st1 i s R1 _ => ⟨fun hn => ⟨xs, (j.step s).t, rps_none rs' hn⟩, fun d hd => ?_⟩⟩
      obtain ⟨v, hv, rv⟩ := rs'.get hd
      refine ⟨⟨xs, v, (j.step s).t, hv⟩, fun y H' hy => ?_⟩
      obtain ⟨rfl, hy2⟩ := hy
      have ev := hy2 xs (j.step s).t
      rw [hv] at ev
      cases ev
      exact ⟨Stp.refl _ _, R1, rv.step s⟩
  · have hsl : ∀ st1, seqOf st1 d = lstOf st1 d := fun st1 => by
      cases d <;> first | rfl | exact absurd ⟨_, rfl⟩ ht
    have hl : ∀ {ι1 : Ix} {H1 : Hp} {st1 : Sto}, Stp ι H ι1 H1 → Rl C ι1 H1 st1 → seqOf st1 d = some ds → ∃ ws, Rd H1 a (.lst ws) ∧ Rps C.K ι1 H1 ws ds := fun {ι1 H1 st1} s R1 e1 => by
      obtain ⟨a2, ws, ex2, hq2, rs2⟩ := lst_of R1 (r.step s) ((hsl st1).symm.trans e1)
      rw [ex] at ex2
      cases ex2
      exact ⟨ws, hq2, rs2⟩
    obtain ⟨ws0, hw0, _⟩ := hl (Stp.refl _ _) Rl0 e
    refine .inl ⟨⟨ws0, .inl hw0⟩, q _ fun ι1 H1 st1 i s R1 e1 => ?_⟩
    obtain ⟨ws, hw, rw'⟩ := hl s R1 e1
    refine ⟨fun hn => ⟨ws, .inl hw, rps_none rw' hn⟩, fun d hd => ?_⟩
    obtain ⟨v, hv, rv⟩ := rw'.get hd
    refine ⟨⟨ws, v, .inl hw, hv⟩, fun y H' hy => ?_⟩
    obtain ⟨rfl, hy2⟩ := hy
    have ev := hy2 ws (.inl hw)
    rw [hv] at ev
    cases ev
    exact ⟨Stp.refl _ _, R1, rv⟩
theorem i_seq (hK : X.K = C.K) (ha : PE X a (rdE C E ma)) : PI X tg a (rdI C E (itSeq ma)) :=
  (pi_seq ha).mono fun σ H R ⟨env, ι, st, re, Rl0, q⟩ => ⟨env, ι, st, re, Rl0, (Pst.bind (rel := Rel1 C.K) q).mono fun x H1 ⟨d, ι1, st1, s1, R1, r1, q1⟩ => by
    replace q1 : Pst C (RelIt C) E ι1 H1 R (seqSrc d st1) := q1
    unfold seqSrc at q1
    cases e : seqOf st1 d with
    | none => simp only [e] at q1; exact q1.elim
    | some xs =>
      simp only [e] at q1
      rw [hK]
      exact it_seq (ι0 := ι1) (H0 := H1) R1 r1 e fun J hJ => Pst.pure (rel := RelIt C) q1 R1 hJ⟩
/-- range(n), range(m, n) -/
def rngL (lo hi : Int) : List D := (List.range (hi - lo).toNat).map fun i => .int (lo + (i : Nat))
def rngOk (i : Int) : Bool := decide (-(2 ^ 62) ≤ i ∧ i < 2 ^ 62)
def rng1D (d : D) : M Src := fun st => match d with
  | .int n => if rngOk n then .ok (rngL 0 n, fun _ => True) st else .bad
  | _ => .bad
def rng2D (c d : D) : M Src := fun st => match c, d with
  | .int m, .int n => if rngOk m && rngOk n then .ok (rngL m n, fun _ => True) st else .bad
  | _, _ => .bad
def itR1 (a : Env → M D) : Env → M Src := fun env => a env >>= rng1D
def itR2 (a b : Env → M D) : Env → M Src := fun env => a env >>= fun x => b env >>= fun y => rng2D x y
theorem it_rng {ι : Ix} {H : Hp} (lo hi : Int) : ItOk C ι H (Itr lo (hi - lo).toNat) (rngL lo hi, fun _ => True) := fun ι1 H1 st1 i s R1 _ => by
  refine ⟨fun hn => ?_, fun d hd => ?_⟩
  · have h : i = (rngL lo hi).length := hn
    unfold rngL at h
    rw [List.length_map, List.length_range] at h
    exact Nat.le_of_eq h.symm
  · have h := (List.getElem?_eq_some_iff.mp hd).1
    unfold rngL at h hd
    rw [List.length_map, List.length_range] at h
    refine ⟨h, fun x H' hy => ?_⟩
    obtain ⟨rfl, rfl⟩ := hy
    rw [List.getElem?_map, List.getElem?_range h] at hd
    cases hd
    exact ⟨Stp.refl _ _, R1, .int _⟩
theorem i_rng1 (ha : PE X a (rdE C E ma)) (hm : X.mg "range" = none) (hg : Gl X "range" := by rfl) (hs : starEach [a] X.env = [(false, eval a X.env)] := by rfl) (hs' : starEach [a] X.env = (false, eval a X.env) :: starEach [] X.env := by rfl) : PI X tg (.Call (.Name "range" p) [a] [] pos) (rdI C E (itR1 ma)) :=
  (pi_range1 hg hm (pa_cons ha pa_nil hs') hs).mono fun σ H R ⟨env, ι, st, re, Rl0, q⟩ => ⟨env, ι, st, re, Rl0, (Pst.bind (rel := Rel1 C.K) q).mono fun v H1 ⟨d, ι1, st1, s1, R1, r1, q1⟩ => by
    cases r1 with
    | int n =>
      cases c : rngOk n with
      | false => simp only [rng1D, c] at q1; exact q1.elim
      | true =>
        simp only [rng1D, c, if_true] at q1
        have hb : -(2 ^ 62) ≤ n ∧ n < 2 ^ 62 := of_decide_eq_true c
        have hI := it_rng (C := C) (ι := ι1) (H := H1) 0 n
        rw [Int.sub_zero] at hI
        exact ⟨n, rfl, hb.1, hb.2, Pst.pure (rel := RelIt C) q1 R1 hI⟩
    | _ => exact q1.elim⟩
theorem i_rng2 (ha : PE X a (rdE C E ma)) (hb : PE X b (rdE C E mb)) (hm : X.mg "range" = none) (hg : Gl X "range" := by rfl) (hs : starEach [a, b] X.env = [(false, eval a X.env), (false, eval b X.env)] := by rfl) (hs2 : starEach [b] X.env = [(false, eval b X.env)] := by rfl)
    (hs3 : starEach [a, b] X.env = (false, eval a X.env) :: starEach [b] X.env := by rfl) (hs4 : starEach [b] X.env = (false, eval b X.env) :: starEach [] X.env := by rfl) : PI X tg (.Call (.Name "range" p) [a, b] [] pos) (rdI C E (itR2 ma mb)) :=
  (pi_range2 hg hm (pa_cons ha (pa_cons hb pa_nil hs4) hs3) hs hs2).mono fun σ H R ⟨env, ι, st, re, Rl0, q⟩ => ⟨env, ι, st, re, Rl0, (Pst.bind (rel := Rel1 C.K) q).mono fun v H1 ⟨d, ι1, st1, s1, R1, r1, q1⟩ =>
    ⟨env, ι1, st1, re.step s1, R1, (Pst.bind (rel := Rel1 C.K) q1).mono fun u H2 ⟨d2, ι2, st2, s2, R2, r2, q2⟩ => by
      cases r1 with
      | int m =>
        cases r2 with
        | int n =>
          cases c : rngOk m && rngOk n with
          | false => simp only [rng2D, c] at q2; exact q2.elim
          | true =>
            simp only [rng2D, c, if_true] at q2
            obtain ⟨c1, c2⟩ := Bool.and_eq_true_iff.mp c
            have hm : -(2 ^ 62) ≤ m ∧ m < 2 ^ 62 := of_decide_eq_true c1
            have hn : -(2 ^ 62) ≤ n ∧ n < 2 ^ 62 := of_decide_eq_true c2
            exact ⟨m, n, rfl, ⟨hm.1, hm.2, hn.1, hn.2⟩, Pst.pure (rel := RelIt C) q2 R2 (it_rng m n)⟩
        | _ => exact q2.elim
      | _ => first | exact q2.elim | (cases r2 <;> exact q2.elim)⟩⟩
end

/-! ### for -/
noncomputable def forL (body : D → SM) (ck : Sto → Prop) : List D → SM
  | [] => fun env => ckM ck >>= fun _ => pure (.nx, env)
  | d :: ds => fun env => ckM ck >>= fun _ => body d env >>= fun r => match r.1 with
    | .nx => forL body ck ds r.2
    | .cnt => forL body ck ds r.2
    | .brk => pure (.nx, r.2)
    | .ret _ => pure r
def inTg (t : Tg) (b : SM) (d : D) : SM := fun env => fun st => match tgD t d env with
  | some env' => b env' st
  | none => .bad
noncomputable def sFor (it : Env → M Src) (t : Tg) (b : SM) : SM := fun env => it env >>= fun src => forL (inTg t b) src.2 src.1 env
section
variable {X : Cx} {C : Ctx} {E : XK} {iter tg : Expr} {body : List Stmt} {pos : Pos} {mi : Env → M Src} {mb : SM} {t : Tg}
theorem rd_for {D : Ends} {σ : L2.St} {H : Hp} (q : rdS C E (sFor mi t mb) D σ H) : tFor (rdI C E mi) (rdG C t) (rdS C E mb) D σ H := by
  obtain ⟨env, ι, st, re, R, q⟩ := q
  refine ⟨env, ι, st, re, R, (Pst.bind (rel := RelIt C) q).mono ?_⟩
  rintro J H1 ⟨src, ι1, st1, s1, R1, hJ, q1⟩
  refine ⟨fun i m σ' H' => ∃ env' ι' st', REnv C.K ι' H' σ' env' ∧ Rl C ι' H' st' ∧ Stp ι1 H1 ι' H' ∧ m = src.1.length - i ∧ i ≤ src.1.length ∧ Pst C (RelFl C.K) E ι' H' (endQ D) (forL (inTg t mb) src.2 (src.1.drop i) env' st'),
    ⟨_, env, ι1, st1, re.step s1, R1, Stp.refl _ _, rfl, Nat.zero_le _, q1⟩, ?_⟩
  rintro i m σ2 H2 ⟨env2, ι2, st2, re2, R2, s2, hm, hi, q2⟩
  by_cases hl : i < src.1.length
  · have hd : src.1[i]? = some src.1[i] := List.getElem?_eq_getElem hl
    rw [List.drop_eq_getElem_cons hl] at q2
    obtain ⟨hck, q3⟩ := ckM_bind q2
    obtain ⟨hgo, hy⟩ := (hJ ι2 H2 st2 i s2 R2 hck).2 _ hd
    refine .inr ⟨hgo, fun σ' H' => ∃ env' ι' st', REnv C.K ι' H' σ' env' ∧ Rl C ι' H' st' ∧ Stp ι1 H1 ι' H' ∧ Pst C (RelFl C.K) E ι' H' (endQ D) (forL (inTg t mb) src.2 (src.1.drop (i + 1)) env' st'), ?_, ?_⟩
    · rintro σ' H' ⟨env', ι', st', r1, r2, r3, r4⟩
      exact ⟨src.1.length - (i + 1), by omega, env', ι', st', r1, r2, r3, rfl, hl, r4⟩
    · intro x H3 y3
      obtain ⟨s3, R3, r3⟩ := hy x H3 y3
      have q4 := Pst.step q3 s3
      have q5 := Pst.bind (rel := RelFl C.K) q4
      cases e1 : tgD t src.1[i] env2 with
      | none =>
        simp only [inTg, e1] at q5
        exact q5.elim
      | some env3 =>
        simp only [inTg, e1] at q5
        refine ⟨src.1[i], env2, ι2, r3, re2.step s3, env3, e1, fun σ3 re3 _ => ⟨env3, ι2, st2, re3, R3, q5.mono ?_⟩⟩
        rintro f H4 ⟨⟨g, env4⟩, ι4, st4, s4, R4, r4, q6⟩
        cases f <;> cases g <;> first
          | exact r4.elim
          | exact ⟨env4, ι4, st4, r4, R4, s2.trans (s3.trans s4), q6⟩
          | exact (Pst.pure (rel := RelFl C.K) (Q := endQ D) (b := .nx _) q6 R4 r4 : D.nx _ _)
          | exact (Pst.pure (rel := RelFl C.K) (Q := endQ D) (b := .ret _) q6 R4 r4 : D.rt _ _)
  · have he : i = src.1.length := by omega
    subst he
    rw [List.drop_length] at q2
    obtain ⟨hck, q3⟩ := ckM_bind q2
    exact .inl ⟨(hJ ι2 H2 st2 _ s2 R2 hck).1 rfl, (Pst.pure (rel := RelFl C.K) (Q := endQ D) (b := .nx _) q3 R2 re2 : D.nx _ _)⟩
theorem s_for (hp : PassesOwn (model X.prog X.w) X.A X.env X.xe) (hc : X.calm = true) (hi : PI X tg iter (rdI C E mi)) (hg : PG X tg (rdG C t)) (hb : PSs X body (rdS C E mb)) (hs : ∀ x, foldedSetIterable iter X.env x = pure x := by intro _; rfl) :
    PS X (.For tg iter body [] pos) (rdS C E (sFor mi t mb)) := (ps_for hp hc hi hg hb hs).mono fun _ _ _ => rd_for
end

/-! ### while -/
def whN (c : Env → M Bool) (b : SM) : Nat → SM
  | 0 => fun _ => bad
  | n + 1 => fun env => c env >>= fun t => if t then (b env >>= fun r => match r.1 with
    | .nx => whN c b n r.2
    | .cnt => whN c b n r.2
    | .brk => pure (.nx, r.2)
    | .ret _ => pure r) else pure (.nx, env)
/-- runs if some number of turns is enough -/
noncomputable def sWhile (c : Env → M Bool) (b : SM) : SM := fun env st => @dite _ (∃ n, whN c b n env st ≠ .bad) (Classical.propDecidable _) (fun h => whN c b (Classical.choose h) env st) fun _ => .bad
section
variable {X : Cx} {C : Ctx} {E : XK} {c : Expr} {body : List Stmt} {pos : Pos} {mc : Env → M Bool} {mb : SM}
theorem rd_while {D : Ends} {σ : L2.St} {H : Hp} (q : rdS C E (sWhile mc mb) D σ H) : tWhile (rdT C E mc) (rdS C E mb) D σ H := by
  obtain ⟨env, ι, st, re, R, q⟩ := q
  obtain ⟨n, qn⟩ : ∃ n, Pst C (RelFl C.K) E ι H (endQ D) (whN mc mb n env st) := by
    unfold sWhile at q
    split at q
    · exact ⟨_, q⟩
    · exact q.elim
  refine ⟨fun m σ' H' => ∃ env' ι' st', REnv C.K ι' H' σ' env' ∧ Rl C ι' H' st' ∧ Pst C (RelFl C.K) E ι' H' (endQ D) (whN mc mb m env' st'), ⟨n, env, ι, st, re, R, qn⟩, ?_⟩
  rintro m σ2 H2 ⟨env2, ι2, st2, re2, R2, q2⟩
  cases m with
  | zero => exact q2.elim
  | succ m =>
    refine ⟨env2, ι2, st2, re2, R2, (Pst.bind (rel := RelB) q2).mono ?_⟩
    rintro b H3 ⟨b', ι3, st3, s3, R3, e3, q3⟩
    obtain rfl : b = b' := e3
    cases b with
    | true =>
      refine ⟨fun σ' H' => ∃ env' ι' st', REnv C.K ι' H' σ' env' ∧ Rl C ι' H' st' ∧ Pst C (RelFl C.K) E ι' H' (endQ D) (whN mc mb m env' st'), fun σ' H' h => ⟨m, Nat.lt_succ_self m, h⟩, env2, ι3, st3, re2.step s3, R3, (Pst.bind (rel := RelFl C.K) q3).mono ?_⟩
      rintro f H4 ⟨⟨g, env4⟩, ι4, st4, s4, R4, r4, q6⟩
      cases f <;> cases g <;> first
        | exact r4.elim
        | exact ⟨env4, ι4, st4, r4, R4, q6⟩
        | exact (Pst.pure (rel := RelFl C.K) (Q := endQ D) (b := .nx _) q6 R4 r4 : D.nx _ _)
        | exact (Pst.pure (rel := RelFl C.K) (Q := endQ D) (b := .ret _) q6 R4 r4 : D.rt _ _)
    | false => exact (Pst.pure (rel := RelFl C.K) (Q := endQ D) (b := .nx _) q3 R3 (re2.step s3) : D.nx _ _)
theorem s_while (hp : PassesOwn (model X.prog X.w) X.A X.env X.xe) (hc : PT X c (rdT C E mc)) (hb : PSs X body (rdS C E mb)) : PS X (.While c body [] pos) (rdS C E (sWhile mc mb)) := (ps_while hp hc hb).mono fun _ _ _ => rd_while
end
end Mir

namespace Mir
open PySem PySem.Spec PyProof.Rows L2

/-! ### list comprehensions -/
def noX {α : Type} (m : M α) : M α := fun st => match m st with
  | .exc _ _ => .bad
  | r => r
theorem noX_pst {α β : Type} {C : Ctx} {rel : Ix → Hp → β → α → Prop} {E E' : XK} {ι : Ix} {H : Hp} {Q : β → Hp → Prop} {m : M α} {st : Sto} (h : Pst C rel E ι H Q (noX m st)) : Pst C rel E' ι H Q (m st) := by
  unfold noX at h
  cases e : m st with
  | ok a st' => rw [e] at h; exact h
  | exc x st' => rw [e] at h; exact h.elim
  | bad => rw [e] at h; exact h.elim
def appO (n : Nat) (y : D) : M Unit := fun st => match st[n]? with
  | some (.lst acc) => if szOk (acc.length + 1) then .ok () (st.set n (.lst (acc ++ [y]))) else .bad
  | _ => .bad
def wipeE (env : Env) : List Nat → Env
  | [] => env
  | v :: vs => (wipeE env vs).set v none
noncomputable def lcGo (n : Nat) (t : Tg) (mt : Env → M Bool) (me : Env → M D) (env : Env) (ck : Sto → Prop) : List D → M D
  | [] => ckM ck >>= fun _ => pure (.obj n)
  | d :: ds => ckM ck >>= fun _ => fun st => match tgD t d env with
    | some env1 => (mt env1 >>= fun c => if c then (me env1 >>= fun y => appO n y >>= fun _ => lcGo n t mt me env ck ds) else lcGo n t mt me env ck ds) st
    | none => .bad
noncomputable def eLC (it : Env → M Src) (t : Tg) (mt : Env → M Bool) (me : Env → M D) (vs : List Nat) : Env → M D := fun env => it env >>= fun src => fun st => noX (lcGo st.length t mt me (wipeE env vs) src.2 src.1) (st ++ [.lst []])
theorem wipe_in {σ : L2.St} {i : Nat} : ∀ {vs : List Nat}, i ∈ vs → i < σ.length → (wipe σ vs)[i]? = some none
  | v :: vs, h, hl => by
    unfold wipe
    by_cases e : v = i
    · subst e
      rw [List.getElem?_set_self (by rw [wipe_length]; exact hl)]
    · rw [List.getElem?_set_ne e]
      rcases List.mem_cons.mp h with z | z
      · exact absurd z.symm e
      · exact wipe_in z hl
theorem wipe_off {σ σ' : L2.St} {vs ws : List Nat} (h : Off ws (wipe σ vs) σ') (hs : ∀ i ∈ ws, i ∈ vs) : wipe σ' vs = wipe σ vs := by
  have hl : σ'.length = σ.length := by rw [h.1, wipe_length]
  refine List.ext_getElem? fun i => ?_
  by_cases hi : i ∈ vs
  · by_cases hz : i < σ.length
    · rw [wipe_in hi hz, wipe_in hi (by rw [hl]; exact hz)]
    · rw [List.getElem?_eq_none (by rw [wipe_length, hl]; omega), List.getElem?_eq_none (by rw [wipe_length]; omega)]
  · rw [wipe_out hi, h.2 i fun z => hi (hs i z)]
theorem wipeE_len (env : Env) : ∀ vs : List Nat, (wipeE env vs).length = env.length
  | [] => rfl
  | v :: vs => by unfold wipeE; rw [List.length_set, wipeE_len env vs]
theorem renv_wipe {K : PySem.W.Frag} {ι : Ix} {H : Hp} {σ : L2.St} {env : Env} (r : REnv K ι H σ env) : ∀ vs : List Nat, REnv K ι H (wipe σ vs) (wipeE env vs)
  | [] => r
  | v :: vs => by
    have ih := renv_wipe r vs
    unfold wipe wipeE
    refine ⟨by rw [List.length_set, List.length_set, ih.len], fun i d h => ?_⟩
    by_cases e : v = i
    · subst e
      have hl := (List.getElem?_eq_some_iff.mp h).1
      rw [List.length_set] at hl
      rw [List.getElem?_set_self hl] at h
      cases h
    · rw [List.getElem?_set_ne e] at h ⊢
      exact ih.at' i d h
section
variable {X : Cx} {C : Ctx} {E : XK} {k : Nat}
theorem Cap.blk (c : Cap X C E k) (s : Shared) (H : Hp) (scope : Scope) (cenv : PySem.Env) (fp : List Addr) : Cap (X.blk s H scope cenv fp) C E0 k := ⟨c.hK, c.calm, c.room, c.nd, passL⟩
theorem ts_nil : PTs X [] (rdT C E fun _ => pure true) := ⟨fun pins s σ H Q I ⟨env, ι, st, re, R, q⟩ => (pts_nil (X := X)).run pins s σ H Q I (Pst.pure (rel := RelB) q R rfl)⟩
theorem ts_one {c : Expr} {mt : Env → M Bool} (h : PT X c (rdT C E mt)) : PTs X [c] (rdT C E mt) := pts_one h
variable {mi : Env → M Src} {t : Tg} {mt : Env → M Bool} {me : Env → M D} {vs : List Nat}
theorem rd_lc (hs : ∀ i ∈ slots t, i ∈ vs) {σ : L2.St} {H : Hp} {Q : VK} (q : rdE C E (eLC mi t mt me vs) σ H Q) : tLc (rdI C E mi) (rdG C t) (rdT C E0 mt) (rdE C E0 me) vs σ H Q := by
  obtain ⟨env, ι, st, re, R, q⟩ := q
  refine ⟨env, ι, st, re, R, (Pst.bind (rel := RelIt C) q).mono ?_⟩
  rintro J H1 ⟨src, ι1, st1, s1, R1, hJ, q1⟩ p np
  have q2 : Pst C (Rel1 C.K) E0 ι1 H1 Q (lcGo st1.length t mt me (wipeE env vs) src.2 src.1 (st1 ++ [.lst []])) := noX_pst q1
  have sA := Stp.alloc (ι := ι1) (o := .lst []) np
  have RA : Rl C (ι1 ++ [some p]) (upd H1 p (.lst [])) (st1 ++ [.lst []]) := R1.alloc np fun H' s' e => ⟨[], e, .nil⟩
  have pA : (ι1 ++ [some p])[st1.length]? = some (some p) := by
    rw [← R1.len, List.getElem?_append_right (Nat.le_refl _), Nat.sub_self]
    rfl
  refine ⟨fun i m H' => ∃ ι' st', Rl C ι' H' st' ∧ Stp (ι1 ++ [some p]) (upd H1 p (.lst [])) ι' H' ∧ m = src.1.length - i ∧ i ≤ src.1.length ∧ Pst C (Rel1 C.K) E0 ι' H' Q (lcGo st1.length t mt me (wipeE env vs) src.2 (src.1.drop i) st'),
    ⟨_, _, _, RA, Stp.refl _ _, rfl, Nat.zero_le _, Pst.step q2 sA⟩, ?_⟩
  rintro i m H2 ⟨ι2, st2, R2, s2, hm, hi, q3⟩
  by_cases hl : i < src.1.length
  · have hd : src.1[i]? = some src.1[i] := List.getElem?_eq_getElem hl
    rw [List.drop_eq_getElem_cons hl] at q3
    obtain ⟨hck, q4⟩ := ckM_bind q3
    obtain ⟨hgo, hy⟩ := (hJ ι2 H2 st2 i (sA.trans s2) R2 hck).2 _ hd
    refine .inr ⟨hgo, fun H' => ∃ ι' st', Rl C ι' H' st' ∧ Stp (ι1 ++ [some p]) (upd H1 p (.lst [])) ι' H' ∧ Pst C (Rel1 C.K) E0 ι' H' Q (lcGo st1.length t mt me (wipeE env vs) src.2 (src.1.drop (i + 1)) st'), ?_, ?_⟩
    · rintro H' ⟨ι', st', r1, r2, r3⟩
      exact ⟨src.1.length - (i + 1), by omega, ι', st', r1, r2, rfl, hl, r3⟩
    · intro x H3 y3
      obtain ⟨s3, R3, r3⟩ := hy x H3 y3
      cases e1 : tgD t src.1[i] (wipeE env vs) with
      | none => simp only [e1] at q4; exact q4.elim
      | some env1 =>
        simp only [e1] at q4
        have q5 := Pst.bind (rel := RelB) (Pst.step q4 s3)
        refine ⟨src.1[i], wipeE env vs, ι2, r3, renv_wipe (re.step (s1.trans (sA.trans (s2.trans s3)))) vs, env1, e1, fun σ' re' off => ⟨wipe_off off hs, env1, ι2, st2, re', R3, q5.mono ?_⟩⟩
        rintro b H4 ⟨b', ι4, st4, s4, R4, e4, q6⟩
        obtain rfl : b = b' := e4
        cases b with
        | false => exact ⟨ι4, st4, R4, s2.trans (s3.trans s4), q6⟩
        | true =>
          refine ⟨env1, ι4, st4, re'.step s4, R4, (Pst.bind (rel := Rel1 C.K) q6).mono ?_⟩
          rintro y H5 ⟨dy, ι5, st5, s5, R5, r5, q7⟩
          have s25 := s2.trans (s3.trans (s4.trans s5))
          have hp := s25.get pA
          replace q7 : Pst C (Rel1 C.K) E0 ι5 H5 Q (Res.andThen (appO st1.length dy st5) fun _ => lcGo st1.length t mt me (wipeE env vs) src.2 (src.1.drop (i + 1))) := q7
          cases e5 : st5[st1.length]? with
          | none => simp only [appO, e5, Res.andThen] at q7; exact q7.elim
          | some o =>
            cases o with
            | dic _ => simp only [appO, e5, Res.andThen] at q7; exact q7.elim
            | ins _ _ => simp only [appO, e5, Res.andThen] at q7; exact q7.elim
            | dead => simp only [appO, e5, Res.andThen] at q7; exact q7.elim
            | lst acc =>
              cases e6 : szOk (acc.length + 1) with
              | false => simp only [appO, e5, e6, Res.andThen] at q7; exact q7.elim
              | true =>
                simp only [appO, e5, e6, if_true, Res.andThen] at q7
                have hp : ι5[st1.length]? = some (some p) := hp.elim id fun z => by
                  rw [R5.dead _ z] at e5
                  cases e5
                obtain ⟨xs, hx, rx⟩ := R5.at' _ _ _ e5 hp
                have hz : acc.length + 1 ≤ sizeLine := of_decide_eq_true e6
                have sP : Stp ι5 H5 ι5 (upd H5 p (.lst (xs ++ [y]))) := Stp.put (List.mem_of_getElem? hp)
                refine ⟨xs, hx, by rw [rx.length]; exact hz, ι5, _, R5.put (ob := .lst (acc ++ [dy])) hp (fun s' => ⟨_, upd_same, (rx.append (.cons r5 .nil)).step s'⟩), s25.trans sP, Pst.step q7 sP⟩
  · have he : i = src.1.length := by omega
    subst he
    rw [List.drop_length] at q3
    obtain ⟨hck, q4⟩ := ckM_bind q3
    exact .inl ⟨(hJ ι2 H2 st2 _ (sA.trans s2) R2 hck).1 rfl, Pst.pure (rel := Rel1 C.K) q4 R2 ((s2.get pA).elim .obj .dead)⟩
variable {elt tg iter : Expr} {ifs : List Expr} {scope : Scope} {own : List (Str × Nat)} {pos spos : Pos}
theorem w_lc (c : Cap X C E k) (hi : PI X tg iter (rdI C E mi)) (ok : BlkOk X.N X.env.scope scope own)
    (hg : ∀ (s : Shared) (H : Hp) (B : Addr) (cl : List (Str × Addr)) (fp : List Addr), PG (X.blk s H scope (compEnvC scope cl B X.env) fp) tg (rdG C t))
    (ht : ∀ (s : Shared) (H : Hp) (B : Addr) (cl : List (Str × Addr)) (fp : List Addr), PTs (X.blk s H scope (compEnvC scope cl B X.env) fp) ifs (rdT C E0 mt))
    (he : ∀ (s : Shared) (H : Hp) (B : Addr) (cl : List (Str × Addr)) (fp : List Addr), PE (X.blk s H scope (compEnvC scope cl B X.env) fp) elt (rdE C E0 me))
    (hs : ∀ i ∈ slots t, i ∈ own.map (·.2) := by decide) (hf : ∀ x, foldedSetIterable iter X.env x = pure x := by intro _; rfl) : PE X (.ListComp elt [⟨tg, iter, ifs, 0⟩] scope pos) (rdE C E (eLC mi t mt me (own.map (·.2)))) :=
  (pe_lc c.calm c.nd hi ok hg ht he hf).mono fun _ _ _ => rd_lc hs
theorem s_setLC (c : Cap X C E k) (i : Nat) {y : Str} {py : Pos} (hi : PI X tg iter (rdI C E mi)) (ok : BlkOk X.N X.env.scope scope own)
    (hg : ∀ (s : Shared) (H : Hp) (B : Addr) (cl : List (Str × Addr)) (fp : List Addr), PG (X.blk s H scope (compEnvC scope cl B X.env) fp) tg (rdG C t))
    (ht : ∀ (s : Shared) (H : Hp) (B : Addr) (cl : List (Str × Addr)) (fp : List Addr), PTs (X.blk s H scope (compEnvC scope cl B X.env) fp) ifs (rdT C E0 mt))
    (he : ∀ (s : Shared) (H : Hp) (B : Addr) (cl : List (Str × Addr)) (fp : List Addr), PE (X.blk s H scope (compEnvC scope cl B X.env) fp) elt (rdE C E0 me))
    (hsw : swapsWith (.ListComp elt [⟨tg, iter, ifs, 0⟩] scope pos) (some (.Name y py)) spos.line X.env = pure true)
    (hy : X.N[i]? = some y := by rfl) (hyl : X.env.scope.names.lookup y = some .local := by rfl) 
    (hs : ∀ i ∈ slots t, i ∈ own.map (·.2) := by decide) (hf : ∀ x, foldedSetIterable iter X.env x = pure x := by intro _; rfl) :
    PS X (.Assign [.Name y py] (.ListComp elt [⟨tg, iter, ifs, 0⟩] scope pos) spos) (rdS C E (sSet (.name i) (eLC mi t mt me (own.map (·.2))))) :=
  (ps_setLc c.calm c.nd hy hyl hsw hi ok hg ht he hf).mono fun D σ H ⟨env, ι, st, re, R, q⟩ => by
    have h0 : rdE C E (eLC mi t mt me (own.map (·.2))) σ H (fun x H1 => gName i x σ H1 D.nx) := ⟨env, ι, st, re, R, (Pst.bind (rel := Rel1 C.K) q).mono fun x H1 ⟨d, ι1, st1, s1, R1, r1, q1⟩ => by
      simp only [tgD] at q1
      exact (Pst.pure (rel := RelFl C.K) (Q := endQ D) (b := .nx _) q1 R1 ((re.step s1).set i r1) : D.nx _ _)⟩
    exact rd_lc hs h0
end
end Mir

namespace Mir
open PySem PySem.Spec PyProof.Rows L2

/-! ### built-in functions -/
def CallD (C : Ctx) (r : List V → Hp → VK → Prop) (f : List D → M D) : Prop := ∀ (E : XK) (ι : Ix) (H : Hp) (st : Sto) (vs : List V) (ds : List D) (Q : VK), Rl C ι H st → Rps C.K ι H vs ds → Pst C (Rel1 C.K) E ι H Q (f ds st) → r vs H Q
def eFn (f : List D → M D) (a : Env → M (List D)) : Env → M D := fun env => a env >>= f
/-- a function of one argument -/
def fn1 (f : D → M D) : List D → M D
  | [d] => f d
  | _ => bad
def fn2 (f : D → D → M D) : List D → M D
  | [d, e] => f d e
  | _ => bad
section
variable {X : Cx} {C : Ctx} {E : XK} {x : Str} {p pos : Pos} {e : Expr} {es : List Expr} {mr : Env → M (List D)} {id T : String} {r : List V → Hp → VK → Prop} {f : List D → M D}
theorem rd_fn (h : CallD C r f) {σ : L2.St} {H : Hp} {Q : VK} (q : rdE C E (eFn f mr) σ H Q) : tCB r (rdA C E mr) σ H Q := by
  obtain ⟨env, ι, st, re, R, q⟩ := q
  exact ⟨env, ι, st, re, R, (Pst.bind (rel := RelA C.K) q).mono fun vs H1 ⟨ds, ι1, st1, s1, R1, r1, q1⟩ => h E ι1 H1 st1 vs ds Q R1 r1 q1⟩
theorem w_callB (hc : CallR X (.builtin id) r) (h : CallD C r f) (hm : X.mg x = none) (hv : bootBuiltins x = some (.builtin id)) (ha : PA X (e :: es) (rdA C E mr)) (hg : Gl X x := by rfl) (hn : x ≠ "__name__" := by decide) (hdb : (x == ("__debug__" : Str)) = false := by decide)
    (he : starEach (e :: es) X.env = (false, eval e X.env) :: starEach es X.env := by rfl) (hpl : (backTo pos (starEach es X.env)).any (·.1) = false := by rfl) : PE X (.Call (.Name x p) (e :: es) [] pos) (rdE C E (eFn f mr)) :=
  (pe_callB hc hg hm hv ha hn hdb he hpl).mono fun _ _ _ => rd_fn h
theorem w_callT (hc : CallR X (.type T) r) (h : CallD C r f) (hm : X.mg x = none) (hv : bootBuiltins x = some (.type T)) (ha : PA X (e :: es) (rdA C E mr)) (hg : Gl X x := by rfl) (hn : x ≠ "__name__" := by decide) (hdb : (x == ("__debug__" : Str)) = false := by decide)
    (he : starEach (e :: es) X.env = (false, eval e X.env) :: starEach es X.env := by rfl) (hpl : (backTo pos (starEach es X.env)).any (·.1) = false := by rfl) : PE X (.Call (.Name x p) (e :: es) [] pos) (rdE C E (eFn f mr)) :=
  (pe_callTy hc hg hm hv ha hn hdb he hpl).mono fun _ _ _ => rd_fn h
end
section
variable {X : Cx} {C : Ctx}
theorem cd1 {r : List V → Hp → VK → Prop} {f : D → M D} (h : ∀ (E : XK) (ι : Ix) (H : Hp) (st : Sto) (v : V) (d : D) (Q : VK), Rl C ι H st → Rp C.K ι H v d → Pst C (Rel1 C.K) E ι H Q (f d st) → r [v] H Q) : CallD C r (fn1 f) := by
  intro E ι H st vs ds Q R rs q
  cases rs with
  | nil => exact q.elim
  | cons r1 rs =>
    cases rs with
    | nil => exact h E ι H st _ _ Q R r1 q
    | cons _ _ => exact q.elim
theorem cd2 {r : List V → Hp → VK → Prop} {f : D → D → M D} (h : ∀ (E : XK) (ι : Ix) (H : Hp) (st : Sto) (v u : V) (d e : D) (Q : VK), Rl C ι H st → Rp C.K ι H v d → Rp C.K ι H u e → Pst C (Rel1 C.K) E ι H Q (f d e st) → r [v, u] H Q) : CallD C r (fn2 f) := by
  intro E ι H st vs ds Q R rs q
  cases rs with
  | nil => exact q.elim
  | cons r1 rs =>
    cases rs with
    | nil => exact q.elim
    | cons r2 rs =>
      cases rs with
      | nil => exact h E ι H st _ _ _ _ Q R r1 r2 q
      | cons _ _ => exact q.elim
/-- len -/
def lenD (d : D) : M D := fun st => match seqOf st d with
  | some xs => .ok (.int xs.length) st
  | none => match dicOf st d with
    | some kvs => .ok (.int kvs.length) st
    | none => match d with
      | .str x => okIf (szOk x.length) (.int x.length) st
      | _ => .bad
def rLenU (K : PySem.W.Frag) : List V → Hp → VK → Prop := fun xs H Q => (∃ x n, xs = [x] ∧ LenV K x H n ∧ Q (.int n) H) ∨ ∃ a kvs, xs = [V.ref a] ∧ H a = some (.dK kvs) ∧ Q (.int kvs.length) H
theorem cr_len : CallR X (.builtin "len") (rLenU X.K) := call_len.or call_lenD
theorem Rkv.length {K : PySem.W.Frag} {ι : Ix} {H : Hp} : ∀ {a : List (Key × V)} {b : List (Key × D)}, Rkv K ι H a b → a.length = b.length
  | _, _, .nil => rfl
  | _, _, .cons _ t => congrArg (· + 1) (Rkv.length t)
theorem cd_len : CallD C (rLenU C.K) (fn1 lenD) := cd1 fun E ι H st v d Q R r q => by
  unfold lenD at q
  cases e1 : seqOf st d with
  | some xs =>
    simp only [e1] at q
    obtain ⟨a, vs, rfl, hq, rs⟩ := seq_of R r e1
    have hl := rs.length
    refine .inl ⟨.ref a, xs.length, rfl, ?_, q.pure R (.int _)⟩
    rcases hq with hq | hq
    · exact .inl ⟨vs, hq, hl.symm⟩
    · exact .inr ⟨vs, hq, hl.symm⟩
  | none =>
    simp only [e1] at q
    cases e2 : dicOf st d with
    | some kvs =>
      simp only [e2] at q
      obtain ⟨n, a, ps, _, ex, _, ep, rk⟩ := dic_of R r e2
      refine .inr ⟨a, ps, by rw [ex], ep, ?_⟩
      rw [rk.length]
      exact q.pure R (.int _)
    | none =>
      simp only [e2] at q
      cases r with
      | str x =>
        obtain ⟨c, q⟩ := okIf_cases q
        exact .inl ⟨.str x, x.length, rfl, ⟨of_decide_eq_true c, rfl⟩, q.pure R (.int _)⟩
      | _ => exact q.elim
/-- tuple(x), list(x) -/
def tupleD (d : D) : M D := fun st => match seqOf st d with
  | some xs => .ok (.tup xs) st
  | none => .bad
def srcOf (st : Sto) : D → Option (List D)
  | .scr ns => some (ns.map .int)
  | d => seqOf st d
theorem src_of {C : Ctx} {ι : Ix} {H : Hp} {st : Sto} {x : V} {d : D} {ds : List D} (R : Rl C ι H st) (r : Rp C.K ι H x d) (h : srcOf st d = some ds) : ∃ a xs, x = .ref a ∧ (SqL C.K H a xs ∨ SqT C.K H a xs) ∧ Rps C.K ι H xs ds := by
  cases d with
  | scr ns =>
    cases r with
    | scr q =>
      simp only [srcOf, Option.some.injEq] at h
      subst h
      exact ⟨_, _, rfl, .inl q.l, Rps.of_ints ns⟩
  | _ => exact seq_of R r (show seqOf st _ = some ds from h)
def listD (d : D) : M D := fun st => match srcOf st d with
  | some xs => .ok (.lst xs) st
  | none => .bad
def listN (d : D) : M D := fun st => match srcOf st d with
  | some xs => allocD (.lst xs) st
  | none => .bad
def rTupC (K : PySem.W.Frag) : List V → Hp → VK → Prop := fun xs H Q => ∃ p ys, xs = [.ref p] ∧ ((SqL K H p ys ∧ ∀ l, H l = none → Q (.ref l) (upd H l (.tup ys))) ∨ (SqT K H p ys ∧ Q (.ref p) H))
def rLstC (K : PySem.W.Frag) : List V → Hp → VK → Prop := fun xs H Q => ∃ p ys, xs = [.ref p] ∧ (SqL K H p ys ∨ SqT K H p ys) ∧ ∀ l, H l = none → Q (.ref l) (upd H l (.lst ys))
theorem cr_tuple : CallR X (.type "tuple") (rTupC X.K) := call_tuple_of
theorem cr_list : CallR X (.type "list") (rLstC X.K) := call_list_of
theorem cd_tuple : CallD C (rTupC C.K) (fn1 tupleD) := cd1 fun E ι H st v d Q R r q => by
  unfold tupleD at q
  cases e1 : seqOf st d with
  | none => simp only [e1] at q; exact q.elim
  | some xs =>
    simp only [e1] at q
    cases d with
    | tup ys =>
      cases r with
      | tup j rs =>
        simp only [seqOf, Option.some.injEq] at e1
        subst e1
        exact ⟨_, _, rfl, .inr ⟨j.t, q.pure R (.tup j rs)⟩⟩
    | _ =>
      obtain ⟨a, vs, ex, hq, rs⟩ := lst_of R r (show lstOf st _ = some xs from e1)
      exact ⟨a, vs, by rw [ex], .inl ⟨.inl hq, fun l nl => new_tup R rs q nl⟩⟩
theorem cd_list : CallD C (rLstC C.K) (fn1 listD) := cd1 fun E ι H st v d Q R r q => by
  unfold listD at q
  cases e1 : srcOf st d with
  | none => simp only [e1] at q; exact q.elim
  | some xs =>
    simp only [e1] at q
    obtain ⟨a, vs, ex, hq, rs⟩ := src_of R r e1
    exact ⟨a, vs, by rw [ex], hq, fun l nl => new_lst R rs q nl⟩
theorem cd_listN : CallD C (rLstC C.K) (fn1 listN) := cd1 fun E ι H st v d Q R r q => by
  unfold listN at q
  cases e1 : srcOf st d with
  | none => simp only [e1] at q; exact q.elim
  | some xs =>
    simp only [e1] at q
    obtain ⟨a, vs, ex, hq, rs⟩ := src_of R r e1
    exact ⟨a, vs, by rw [ex], hq, fun l nl => new_obj R rs q nl⟩
/-- lists of ints, of truths -/
def asInts : List D → Option (List Int)
  | [] => some []
  | .int i :: r => (asInts r).map (i :: ·)
  | _ => none
def asBls : List D → Option (List Bool)
  | [] => some []
  | .bl i :: r => (asBls r).map (i :: ·)
  | _ => none
theorem asInts_of : ∀ {ds : List D} {ns : List Int}, asInts ds = some ns → ds = ns.map D.int
  | [], ns, h => by simp only [asInts, Option.some.injEq] at h; subst h; rfl
  | d :: r, ns, h => by
    cases d <;> try (simp only [asInts] at h; cases h)
    rename_i i
    cases e : asInts r with
    | none => simp only [asInts, e, Option.map_none] at h; cases h
    | some ms =>
      simp only [asInts, e, Option.map_some, Option.some.injEq] at h
      subst h
      rw [asInts_of e]
      rfl
theorem asBls_of : ∀ {ds : List D} {ns : List Bool}, asBls ds = some ns → ds = ns.map D.bl
  | [], ns, h => by simp only [asBls, Option.some.injEq] at h; subst h; rfl
  | d :: r, ns, h => by
    cases d <;> try (simp only [asBls] at h; cases h)
    rename_i i
    cases e : asBls r with
    | none => simp only [asBls, e, Option.map_none] at h; cases h
    | some ms =>
      simp only [asBls, e, Option.map_some, Option.some.injEq] at h
      subst h
      rw [asBls_of e]
      rfl
theorem asInts_map : ∀ ns : List Int, asInts (ns.map D.int) = some ns
  | [] => rfl
  | n :: ns => by
    show (asInts (ns.map D.int)).map (n :: ·) = _
    rw [asInts_map ns]
    rfl
theorem asBls_map : ∀ ns : List Bool, asBls (ns.map D.bl) = some ns
  | [] => rfl
  | n :: ns => by
    show (asBls (ns.map D.bl)).map (n :: ·) = _
    rw [asBls_map ns]
    rfl
def intsF (g : List Int → D) (d : D) : M D := fun st => match lstOf st d with
  | some xs => match asInts xs with
    | some ns => .ok (g ns) st
    | none => .bad
  | none => .bad
def blsF (g : List Bool → D) (d : D) : M D := fun st => match lstOf st d with
  | some xs => match asBls xs with
    | some ns => .ok (g ns) st
    | none => .bad
  | none => .bad
def sumD : D → M D := intsF fun ns => .int ns.sum
def allD : D → M D := blsF fun bs => .bl (bs.all id)
def anyD : D → M D := blsF fun bs => .bl (bs.any id)
theorem ints_of {E : XK} {ι : Ix} {H : Hp} {st : Sto} {v : V} {d : D} {Q : VK} {g : List Int → D} (R : Rl C ι H st) (r : Rp C.K ι H v d) (q : Pst C (Rel1 C.K) E ι H Q (intsF g d st)) :
    ∃ a ns, v = .ref a ∧ SqL C.K H a (ns.map V.int) ∧ Pst C (Rel1 C.K) E ι H Q (.ok (g ns) st) := by
  unfold intsF at q
  cases e1 : lstOf st d with
  | none => simp only [e1] at q; exact q.elim
  | some xs =>
    cases e2 : asInts xs with
    | none => simp only [e1, e2] at q; exact q.elim
    | some ns =>
      simp only [e1, e2] at q
      obtain ⟨a, vs, ex, hq, rs⟩ := lst_of R r e1
      rw [asInts_of e2] at rs
      rw [rs.ints] at hq
      exact ⟨a, ns, ex, .inl hq, q⟩
theorem bls_of {E : XK} {ι : Ix} {H : Hp} {st : Sto} {v : V} {d : D} {Q : VK} {g : List Bool → D} (R : Rl C ι H st) (r : Rp C.K ι H v d) (q : Pst C (Rel1 C.K) E ι H Q (blsF g d st)) :
    ∃ a ns, v = .ref a ∧ SqL C.K H a (ns.map V.bl) ∧ Pst C (Rel1 C.K) E ι H Q (.ok (g ns) st) := by
  unfold blsF at q
  cases e1 : lstOf st d with
  | none => simp only [e1] at q; exact q.elim
  | some xs =>
    cases e2 : asBls xs with
    | none => simp only [e1, e2] at q; exact q.elim
    | some ns =>
      simp only [e1, e2] at q
      obtain ⟨a, vs, ex, hq, rs⟩ := lst_of R r e1
      rw [asBls_of e2] at rs
      rw [rs.bls] at hq
      exact ⟨a, ns, ex, .inl hq, q⟩
theorem cd_sum : CallD C (rSum C.K) (fn1 sumD) := cd1 fun E ι H st v d Q R r q => by
  obtain ⟨a, ns, ex, hq, q⟩ := ints_of R r q
  exact ⟨a, ns, by rw [ex], hq, q.pure R (.int _)⟩
theorem cd_all : CallD C (rAll C.K) (fn1 allD) := cd1 fun E ι H st v d Q R r q => by
  obtain ⟨a, ns, ex, hq, q⟩ := bls_of R r q
  exact ⟨a, ns, by rw [ex], hq, q.pure R (.bl _)⟩
theorem cd_any : CallD C (rAny C.K) (fn1 anyD) := cd1 fun E ι H st v d Q R r q => by
  obtain ⟨a, ns, ex, hq, q⟩ := bls_of R r q
  exact ⟨a, ns, by rw [ex], hq, q.pure R (.bl _)⟩
/-- sorted, ints -/
def insI (n : Int) : List Int → List Int
  | [] => [n]
  | m :: r => if n ≤ m then n :: m :: r else m :: insI n r
def sortI : List Int → List Int
  | [] => []
  | n :: r => insI n (sortI r)
theorem insI_perm (n : Int) : ∀ l : List Int, (insI n l).Perm (n :: l)
  | [] => .refl _
  | m :: r => by
    unfold insI
    split
    · exact .refl _
    · exact ((insI_perm n r).cons m).trans (.swap n m r)
theorem sortI_perm : ∀ l : List Int, (sortI l).Perm l
  | [] => .refl _
  | n :: r => (insI_perm n (sortI r)).trans ((sortI_perm r).cons n)
theorem insI_pw (n : Int) : ∀ l : List Int, l.Pairwise (· ≤ ·) → (insI n l).Pairwise (· ≤ ·)
  | [], _ => List.pairwise_singleton _ _
  | m :: r, h => by
    have h1 := List.pairwise_cons.mp h
    unfold insI
    split
    · rename_i hn
      exact List.pairwise_cons.mpr ⟨fun a ha => by
        rcases List.mem_cons.mp ha with z | z
        · rw [z]; exact hn
        · exact Int.le_trans hn (h1.1 a z), h⟩
    · rename_i hn
      refine List.pairwise_cons.mpr ⟨fun a ha => ?_, insI_pw n r h1.2⟩
      rcases List.mem_cons.mp ((insI_perm n r).mem_iff.mp ha) with z | z
      · rw [z]; omega
      · exact h1.1 a z
theorem sortI_pw : ∀ l : List Int, (sortI l).Pairwise (· ≤ ·)
  | [] => .nil
  | n :: r => insI_pw n _ (sortI_pw r)
theorem sortI_unique {l l' : List Int} (p : l'.Perm l) (s : l'.Pairwise (· ≤ ·)) : l' = sortI l :=
  List.Perm.eq_of_pairwise (fun a b _ _ h1 h2 => Int.le_antisymm h1 h2) s (sortI_pw l) (p.trans (sortI_perm l).symm)
def sortedD : D → M D := intsF fun ns => .lst ((sortI ns).map .int)
theorem cd_sorted : CallD C (rSortedI C.K) (fn1 sortedD) := cd1 fun E ι H st v d Q R r q => by
  obtain ⟨a, ns, ex, hq, q⟩ := ints_of R r q
  refine ⟨a, ns, by rw [ex], hq, fun ns' p pm so np => ?_⟩
  rw [sortI_unique pm so]
  exact new_lst R (Rps.of_ints _) q np
/-- abs, max, min, int, bool -/
def absD (d : D) : M D := fun st => match d with
  | .int i => .ok (.int (if i < 0 then -i else i)) st
  | _ => .bad
def maxD (a b : D) : M D := fun st => match a, b with
  | .int i, .int j => .ok (.int (if j > i then j else i)) st
  | _, _ => .bad
def minD (a b : D) : M D := fun st => match a, b with
  | .int i, .int j => .ok (.int (if j < i then j else i)) st
  | _, _ => .bad
def intD (d : D) : M D := fun st => match d with
  | .int i => .ok (.int i) st
  | .bl k => .ok (.int (if k then 1 else 0)) st
  | _ => .bad
def rAbs : List V → Hp → VK → Prop := fun xs H Q => ∃ i, xs = [.int i] ∧ Q (.int (if i < 0 then -i else i)) H
def rMax2 : List V → Hp → VK → Prop := fun xs H Q => ∃ i j, xs = [.int i, .int j] ∧ Q (.int (if j > i then j else i)) H
def rMin2 : List V → Hp → VK → Prop := fun xs H Q => ∃ i j, xs = [.int i, .int j] ∧ Q (.int (if j < i then j else i)) H
def rInt1 : List V → Hp → VK → Prop := fun xs H Q => (∃ i, xs = [.int i] ∧ Q (.int i) H) ∨ ∃ k, xs = [.bl k] ∧ Q (.int (if k then 1 else 0)) H
theorem cr_abs : CallR X (.builtin "abs") rAbs := call_abs
theorem cr_max2 (hc : X.calm = true) : CallR X (.builtin "max") rMax2 := call_max2 hc
theorem cr_min2 (hc : X.calm = true) : CallR X (.builtin "min") rMin2 := call_min2 hc
theorem cr_int : CallR X (.type "int") rInt1 := call_int1
theorem cd_abs : CallD C rAbs (fn1 absD) := cd1 fun E ι H st v d Q R r q => by
  cases r with
  | int i => exact ⟨i, rfl, Pst.pure (rel := Rel1 C.K) q R (.int _)⟩
  | _ => exact q.elim
theorem cd_max : CallD C rMax2 (fn2 maxD) := cd2 fun E ι H st v u d e Q R r1 r2 q => by
  cases r1 <;> first
    | exact q.elim
    | (cases r2 <;> first
        | exact q.elim
        | exact ⟨_, _, rfl, Pst.pure (rel := Rel1 C.K) q R (.int _)⟩)
theorem cd_min : CallD C rMin2 (fn2 minD) := cd2 fun E ι H st v u d e Q R r1 r2 q => by
  cases r1 <;> first
    | exact q.elim
    | (cases r2 <;> first
        | exact q.elim
        | exact ⟨_, _, rfl, Pst.pure (rel := Rel1 C.K) q R (.int _)⟩)
theorem cd_int : CallD C rInt1 (fn1 intD) := cd1 fun E ι H st v d Q R r q => by
  cases r with
  | int i => exact .inl ⟨i, rfl, Pst.pure (rel := Rel1 C.K) q R (.int _)⟩
  | bl i => exact .inr ⟨i, rfl, Pst.pure (rel := Rel1 C.K) q R (.int _)⟩
  | _ => exact q.elim
end

/-! ### isinstance of built-in types -/
/-- the built-in type of a thing -/
def tyD (st : Sto) : D → Option String
  | .non => some "NoneType"
  | .bl _ => some "bool"
  | .int _ => some "int"
  | .str _ => some "str"
  | .tup _ => some "tuple"
  | .lst _ => some "list"
  | .obj n => match st[n]? with
    | some (.lst _) => some "list"
    | some (.dic _) => some "dict"
    | _ => none
  | .scr _ => none
def subT (a b : String) : Bool := a == b || (a == "bool" && b == "int")
def kitOk (a b : String) : Bool := decide (kitB a b = some (subT a b))
/-- one of the types -/
def isiD (Ts : List String) (d : D) : M D := fun st => match tyD st d with
  | some t => okIf (Ts.all (kitOk t)) (.bl (Ts.any (subT t))) st
  | none => .bad
section
variable {X : Cx} {C : Ctx} {E : XK}
theorem tyx_of {ι : Ix} {H : Hp} {st : Sto} {v : V} {d : D} {t : String} (R : Rl C ι H st) (r : Rp C.K ι H v d) (h : tyD st d = some t) : TyX C.K H v (.type t) := by
  cases r with
  | non => cases h; exact .base .non
  | bl b => cases h; exact .base (.bl b)
  | int i => cases h; exact .base (.int i)
  | str x => cases h; exact .base (.str x)
  | tup j rs =>
    cases h
    rcases j with ⟨j | ⟨o, j⟩, _⟩ | ⟨o, its, n, j, hc, _⟩
    · exact .base (.tup j)
    · exact .fTuple j
    · exact .kTuple j hc
  | lst j rs =>
    cases h
    rcases j with ⟨j | ⟨o, j⟩, _⟩
    · exact .base (.lst j)
    · exact .base (.frz j)
  | @obj a n e =>
    cases s : st[n]? with
    | none => simp only [tyD, s] at h; cases h
    | some o =>
      obtain ⟨b, e2, q⟩ := R.get s fun z => by
        rw [z] at s
        simp only [tyD, s] at h
        cases h
      rw [e] at e2
      cases e2
      cases o with
      | lst xs => simp only [tyD, s, Option.some.injEq] at h; subst h; obtain ⟨xs', q, _⟩ := q; exact .base (.lst q)
      | dic xs => simp only [tyD, s, Option.some.injEq] at h; subst h; obtain ⟨xs', q, _⟩ := q; exact .base (.dK q)
      | ins _ _ => simp only [tyD, s] at h; cases h
      | dead => simp only [tyD, s] at h; cases h
  | dead e => simp only [tyD, R.dead _ e] at h; cases h
  | scr q => simp only [tyD] at h; cases h
theorem kitAny_of {K : PySem.W.Frag} {t : String} : ∀ {Ts : List String}, Ts.all (kitOk t) = true → PySem.W.kitAny K (.type t) (Ts.map Value.type) = some (Ts.any (subT t))
  | [], _ => rfl
  | T :: Ts, h => by
    rw [List.all_cons, Bool.and_eq_true] at h
    have h1 : kitB t T = some (subT t T) := of_decide_eq_true h.1
    rw [List.map_cons, List.any_cons]
    refine kitAny_cons (kit_ty h1) (fun e => ?_) (fun e => ?_)
    · rw [e, Bool.false_or]; exact kitAny_of h.2
    · rw [e, Bool.true_or]
theorem tys_paired : ∀ Ts : List String, Paired ClsV (Ts.map V.ty) (Ts.map Value.type)
  | [] => .nil
  | T :: Ts => .cons (.ty T) (tys_paired Ts)
variable {e : Expr} {pos p q1 q2 : Pos} {ma : Env → M D} {nm : Str} {T : String}
/-- isinstance(e, T) -/
theorem w_isi (ha : PE X e (rdE C E ma)) (hK : X.K = C.K) (hm : X.mg "isinstance" = none) (hmT : X.mg nm = none) (hv : bootBuiltins nm = some (.type T)) (hg : Gl X "isinstance" := by rfl) (hgT : Gl X nm := by rfl) (hn : nm ≠ "__name__" := by decide) (hd : (nm == ("__debug__" : Str)) = false := by decide)
    (h1 : starEach [e, .Name nm q1] X.env = (false, eval e X.env) :: starEach [.Name nm q1] X.env := by rfl) (h2 : starEach [.Name nm q1] X.env = (false, eval (.Name nm q1) X.env) :: starEach [] X.env := by rfl)
    (hpl : (backTo pos (starEach [.Name nm q1] X.env)).any (·.1) = false := by rfl) :
    PE X (.Call (.Name "isinstance" p) [e, .Name nm q1] [] pos) (rdE C E (eUn (isiD [T]) ma)) :=
  (pe_callB call_isi hg hm boot_isinstance (pa_cons ha (pa_cons (pe_bltn (v := .ty T) hgT hmT hv rfl hn hd) pa_nil h2) h1) (by decide) (by decide) h1 hpl).mono fun σ H Q ⟨env, ι, st, re, R, q⟩ => ⟨env, ι, st, re, R, (Pst.bind (rel := Rel1 C.K) q).mono fun x H1 ⟨d, ι1, st1, s1, R1, r1, q1⟩ => by
    replace q1 : Pst C (Rel1 C.K) E ι1 H1 Q (isiD [T] d st1) := q1
    unfold isiD at q1
    cases e1 : tyD st1 d with
    | none => simp only [e1] at q1; exact q1.elim
    | some t =>
      simp only [e1] at q1
      obtain ⟨c, q2⟩ := okIf_cases q1
      rw [List.all_cons, List.all_nil, Bool.and_true] at c
      rw [List.any_cons, List.any_nil, Bool.or_false] at q2
      rw [hK]
      exact ⟨x, .ty T, .type t, .type T, subT t T, rfl, .ty T, tyx_of R1 r1 e1, kit_ty (of_decide_eq_true c), q2.pure R1 (.bl _)⟩⟩
end
end Mir

namespace Mir
open PySem PySem.Spec PyProof.Rows L2

/-! ### enumerate and zip over lists and tuples in any mix -/
/-- b: a list, else a tuple -/
def ItS (b : Bool) (h : Heap) (it a : Addr) (i : Nat) : Prop := match b with
  | true => h.IsListIter it a i
  | false => h.IsTupleIter it a i
def CtS (b : Bool) (h : Heap) (a : Addr) (us : Array Value) : Prop := match b with
  | true => h.IsList a us
  | false => h.IsTuple a us
def SqB (b : Bool) (K : PySem.W.Frag) (H : Hp) (a : Addr) (xs : List V) : Prop := match b with
  | true => SqL K H a xs
  | false => SqT K H a xs
def itO (b : Bool) (a : Addr) : Obj := match b with
  | true => { cls := .type "list_iterator", data := .fields #[.ref a, .int 0 0] }
  | false => { cls := .type "tuple_iterator", data := .fields #[.ref a, .int 0 0] }
theorem ItS.obj {b : Bool} {h : Heap} {it a : Addr} {i : Nat} (s : ItS b h it a i) : ∃ o, h.get? it = some o ∧ ∀ v, o.data ≠ .cell v := by
  cases b with
  | true => obtain ⟨o, e, _, d⟩ := s; exact ⟨o, e, fun v z => by rw [d] at z; cases z⟩
  | false => obtain ⟨o, e, _, d⟩ := s; exact ⟨o, e, fun v z => by rw [d] at z; cases z⟩
theorem ItS.move {b : Bool} {h h' : Heap} {it a : Addr} {i : Nat} (s : ItS b h it a i) (k : ∀ o, h.get? it = some o → h'.get? it = some o) : ItS b h' it a i := by
  cases b with
  | true => exact s.at fun o e => k o e
  | false => exact s.at fun o e => k o e
theorem itS_new {b : Bool} {h : Heap} {it a : Addr} (e : h.get? it = some (itO b a)) : ItS b h it a 0 := by
  cases b with
  | true => exact ⟨_, e, rfl, rfl⟩
  | false => exact ⟨_, e, rfl, rfl⟩
theorem drawsS (b : Bool) {prog : Program} {w : World} {A : Around} (hh : A.handled = none) (it a : Addr) (hne : a ≠ it) (us : Array Value) : Draws prog w A it [it, a] us.size (fun i v => us[i]? = some v) (fun i h => ItS b h it a i ∧ CtS b h a us) := by
  cases b with
  | true => exact Draws.list hh it a hne us
  | false => exact Draws.tuple hh it a hne us
theorem beginsS (b : Bool) (a : Addr) (us : Array Value) : Begins (.ref a) (itO b a) fun h => CtS b h a us := by
  cases b with
  | true => exact begins_list a us
  | false => exact begins_tuple a us
section
variable {X : Cx} {pins : List (Addr × Obj)} {σ : L2.St} {H : Hp} {s : Shared} {a : Addr} {xs ys : List V} {b : Bool}
theorem sqB_get (I : Inv X pins σ H s) (h : SqB b X.K H a xs) : ∃ its : List Value, Vals xs its ∧ CtS b s.heap a its.toArray ∧ a < s.heap.objs.size ∧ H a ≠ some (.own a) := by
  cases b with
  | true =>
    obtain ⟨its, r, pl, _⟩ := I.list h
    refine ⟨its, r, pl.isList, pl.lt, fun z => ?_⟩
    rcases h with (h | ⟨o, h⟩) | ⟨o, its', n, hk, _⟩
    · rw [h] at z; cases z
    · rw [h] at z; cases z
    · have := (I.bs a o (I.ok.mod.kin a o hk)).2
      rw [this] at z; cases z
  | false =>
    obtain ⟨its, r, pl, _⟩ := I.tuple h
    refine ⟨its, r, pl, pl.lt, fun z => ?_⟩
    rcases h with (h | ⟨o, h⟩) | ⟨o, its', n, hk, _⟩
    · rw [h] at z; cases z
    · rw [h] at z; cases z
    · have := (I.bs a o (I.ok.mod.kin a o hk)).2
      rw [this] at z; cases z
theorem sqB_inj (I : Inv X pins σ H s) (h : SqB b X.K H a xs) (h' : SqB b X.K H a ys) : xs = ys := by
  cases b with
  | true => exact I.list_inj h h'
  | false => exact I.tuple_inj h h'
end
/-- at each turn a new pair of the turn's number and the item -/
def IteB (b : Bool) (K : PySem.W.Frag) (a : Addr) : It :=
  ⟨fun i H => ∃ (xs : List V) (x : V), SqB b K H a xs ∧ xs[i]? = some x, fun i H v H' => ∃ T x, v = .ref T ∧ H T = none ∧ H' = upd H T (.tup [.int (i : Nat), x]) ∧ ∀ xs, SqB b K H a xs → xs[i]? = some x, fun i H => ∃ xs : List V, SqB b K H a xs ∧ i = xs.length⟩
theorem turn_enumB (b : Bool) {P : Program} {w : World} {K : PySem.W.Frag} {elts : List Expr} {kk : Nat} {tpos : Pos} (a e it : Addr) (h1 : e ≠ it) (h2 : e ≠ a) (h3 : a ≠ it) :
    Turn P w K (.Tuple elts kk tpos) (IteB b K a) [e, it] e (fun i h => (∃ old, IsEnum h e it ((i : Nat) : Int) old) ∧ ItS b h it a i) where
  mem := by simp
  obj := fun i h st c hc => by
    obtain ⟨⟨old, he⟩, hi⟩ := st
    rcases List.mem_cons.mp hc with z | z
    · rw [z]; exact ⟨_, he, fun v q => nomatch q⟩
    · rw [List.mem_singleton.mp z]; exact hi.obj
  keep := fun i h h' st k => ⟨st.1.imp fun old he => k e (by simp) _ he, st.2.move fun o q => k it (by simp) o q⟩
  item := by
    intro X hP hw hK hc i pins s σ H E I hf st hg
    subst hP hw hK
    obtain ⟨he, hi⟩ := st
    obtain ⟨xs, x, hq, hx⟩ := hg
    obtain ⟨its, rv, ct, _⟩ := sqB_get I hq
    obtain ⟨u, hu, ru⟩ := rv.get hx
    have hlt : i < its.toArray.size := by
      rw [List.size_toArray]
      exact (List.getElem?_eq_some_iff.mp hu).1
    have W := GoesN.enumFrom (prog := X.prog) (w := X.w) (A := X.A) (elts := elts) (x1 := kk) (pos := tpos) 0 (drawsS b (prog := X.prog) (w := X.w) (A := X.A.in1) (I.ok.hd hc) it a h3 its.toArray) e h1 (by simp only [List.mem_cons, List.not_mem_nil, or_false, not_or]; exact ⟨h1, h2⟩) (by simp)
    refine W.goes i s (fun v s2 => ∃ x H', Inv X pins σ H' s2 ∧ RelV x v ∧ (IteB b X.K a).yld i H x H' ∧ ((∃ old, IsEnum s2.heap e it (((i + 1 : Nat) : Nat) : Int) old) ∧ ItS b s2.heap it a (i + 1)) ∧ ∀ c ∈ [e, it], H' c = none) E hlt ⟨?_, hi, ct⟩ fun v h' tk hY st' hk _ => ?_
    · rw [Int.zero_add]; exact he
    · obtain ⟨T, t, u', rfl, hT, hu', hTu⟩ := hY
      have eu : u' = u := by
        have z : its.toArray[i]? = some u := by rw [List.getElem?_toArray]; exact hu
        rw [z] at hu'
        exact (Option.some.inj hu').symm
      subst eu
      have new : ObjOk X.prog X.w (upd H T (.tup [.int (i : Nat), x])) h' T (.tup [.int (i : Nat), x]) :=
        ⟨by show 2 ≤ sizeLine; decide, [.int (0 + (i : Int)) t, u'], .cons ⟨t, by rw [Int.zero_add]⟩ (.cons ru .nil), hTu⟩
      have I1 : Inv X pins σ (upd H T (.tup [.int (i : Nat), x])) { s with heap := h', toks := tk } := I.turnedNew (ch := [e, it]) hk hf hT new
      obtain ⟨he', hi', _⟩ := st'
      refine ⟨.ref T, _, I1, rfl, ⟨T, x, rfl, I.hok.fresh hT, rfl, fun ys hy => by rw [sqB_inj I hy hq]; exact hx⟩, ⟨by rw [Int.zero_add] at he'; exact he', hi'⟩, fun c hc' => ?_⟩
      have hcl : c < s.heap.objs.size := by
        rcases List.mem_cons.mp hc' with z | z
        · obtain ⟨old, he0⟩ := he
          rw [z]; exact Heap.lt_size he0
        · obtain ⟨o, ho, _⟩ := hi.obj
          rw [List.mem_singleton.mp z]; exact Heap.lt_size ho
      rw [upd_ne (Nat.ne_of_lt (Nat.lt_of_lt_of_le hcl hT))]
      exact (hf c hc').1
  done := by
    intro X hP hw hK hc i pins s σ H E I hf st hg
    subst hP hw hK
    obtain ⟨he, hi⟩ := st
    obtain ⟨xs, hq, hx⟩ := hg
    obtain ⟨its, rv, ct, _⟩ := sqB_get I hq
    have W := GoesN.enumFrom (prog := X.prog) (w := X.w) (A := X.A) (elts := elts) (x1 := kk) (pos := tpos) 0 (drawsS b (prog := X.prog) (w := X.w) (A := X.A.in1) (I.ok.hd hc) it a h3 its.toArray) e h1 (by simp only [List.mem_cons, List.not_mem_nil, or_false, not_or]; exact ⟨h1, h2⟩) (by simp)
    have hn : its.toArray.size = i := by rw [List.size_toArray, ← rv.length, hx]
    refine W.stops s (fun s2 => Inv X pins σ H s2) E ?_ fun h' tk hk _ => I.turnedL (ch := [e, it]) (t' := tk) hk hf
    rw [hn]
    refine ⟨?_, hi, ct⟩
    rw [Int.zero_add]
    exact he
  self := fun A i s Q E st h => let ⟨⟨_, he⟩, _⟩ := st; wpAny_pyIter_enum he h

/-- enumerate(v): one argument, whatever v is walked as -/
theorem meets_enum1 {v : Value} {o : Obj} {B : Heap → Prop} (W : Begins v o B) :
    Meets (Builtin.«enumerate.__new__» ⟨[.type "enumerate", v], []⟩) (fun _ R s => B s.heap ∧
      R (.ok (.ret (.ref (s.heap.push o).objs.size))) { s with heap := (s.heap.push o).push { cls := .type "enumerate", data := .fields #[.none, .bool false, .ref s.heap.objs.size, rawInt 0, .none, .none] } }) :=
  .of_wp fun prog w A R s h => by
    obtain ⟨hp, gs, dr, tk, os⟩ := s
    obtain ⟨hb, h⟩ := h
    have hsub := sub_enumerate
    have go : ∀ {A' : Around} {E' : Value → Shared → Prop} {Q' : Value → Shared → Prop}, Q' (.ref hp.objs.size) ⟨hp.push o, gs, dr, tk, os⟩ → wpAny (model prog w) A' (pyIter v) Q' E' ⟨hp, gs, dr, tk, os⟩ :=
      fun q => W.iter prog w _ _ ⟨hp, gs, dr, tk, os⟩ _ hb q
    wp_walk using go
    refine wpAny_stack_any fun st => wpAny_pure ?_
    split
    · rename_i c _ _ _ _ _
      cases (c == Value.type "enumerate")
      all_goals
        wp_walk using go
        exact ⟨_, rfl, h⟩
    · wp_walk using go
      exact ⟨_, rfl, h⟩
theorem call_enum1 {prog : Program} {w : World} {A : Around} {E : Value → Shared → Prop} {s : Shared} {v : Value} {o : Obj} {B : Heap → Prop} {Q : Value → Shared → Prop} (W : Begins v o B) (hb : B s.heap)
    (h : ∀ h', IsEnum h' (s.heap.objs.size + 1) s.heap.objs.size 0 .none → h'.get? s.heap.objs.size = some o → (∀ b o, s.heap.get? b = some o → h'.get? b = some o) → Q (.ref (s.heap.objs.size + 1)) { s with heap := h' }) :
    wpAny (model prog w) A (call (.type "enumerate") [v]) Q E s := by
  refine callType_new F.called_enumerate (by decide) (F.typeCall_enumerate_1 _) (F.newCall_enumerate_1 _) (fun obj => F.args_object_init_2 obj _) F.entry_enumerate_new (meets_enum1 W) ⟨hb, ?_⟩
  have hz : (s.heap.push o).objs.size = s.heap.objs.size + 1 := Heap.size_push ..
  show _ ∧ _
  rw [hz]
  have he : IsEnum ((s.heap.push o).push { cls := .type "enumerate", data := .fields #[.none, .bool false, .ref s.heap.objs.size, rawInt 0, .none, .none] }) (s.heap.objs.size + 1) s.heap.objs.size 0 .none := by
    have q := Heap.get?_push_size (s.heap.push o) (o := { cls := .type "enumerate", data := .fields #[.none, .bool false, .ref s.heap.objs.size, rawInt 0, .none, .none] }) rfl
    rw [hz] at q
    exact q
  exact ⟨⟨_, he, rfl⟩, h _ he (Heap.get?_push_of_some _ (Heap.get?_push_size _ W.free)) fun b o x => Heap.get?_push_of_some _ (Heap.get?_push_of_some _ x)⟩
/-- which of the two a value is -/
def enumL (xs : List D) : List D := (List.range xs.length).map fun i => .tup [.int (i : Nat), xs.getD i .non]
theorem enumL_len (xs : List D) : (enumL xs).length = xs.length := by unfold enumL; rw [List.length_map, List.length_range]
theorem enumL_get {xs : List D} {i : Nat} {e : D} (h : (enumL xs)[i]? = some e) : ∃ d, xs[i]? = some d ∧ e = .tup [.int (i : Nat), d] := by
  have hl := (List.getElem?_eq_some_iff.mp h).1
  rw [enumL_len] at hl
  refine ⟨xs[i], List.getElem?_eq_getElem hl, ?_⟩
  unfold enumL at h
  rw [List.getElem?_map, List.getElem?_range hl] at h
  simp only [Option.map_some, Option.some.injEq] at h
  rw [← h, List.getD_eq_getElem?_getD, List.getElem?_eq_getElem hl]
  rfl
def enumSrc (d : D) : M Src := fun st => match seqOf st d with
  | some xs => .ok (enumL xs, fun st' => seqOf st' d = some xs) st
  | none => .bad
def itEnum (a : Env → M D) : Env → M Src := fun env => a env >>= enumSrc
section
variable {C : Ctx} {ι : Ix} {H : Hp} {st : Sto}
/-- a walked thing by its kind, as long as the store's word holds -/
theorem kind_of {x : V} {d : D} {ds : List D} (R : Rl C ι H st) (r : Rp C.K ι H x d) (e : seqOf st d = some ds) :
    ∃ (b : Bool) (a : Addr), x = .ref a ∧ ∀ (ι1 : Ix) (H1 : Hp) (st1 : Sto), Stp ι H ι1 H1 → Rl C ι1 H1 st1 → seqOf st1 d = some ds → ∃ ws, SqB b C.K H1 a ws ∧ Rps C.K ι1 H1 ws ds := by
  by_cases ht : ∃ ys, d = .tup ys
  · obtain ⟨ys, rfl⟩ := ht
    cases r with
    | @tup a xs _ j rs =>
      simp only [seqOf, Option.some.injEq] at e
      subst e
      exact ⟨false, a, rfl, fun ι1 H1 st1 s _ _ => ⟨xs, (j.step s).t, rs.step s⟩⟩
  · have hsl : ∀ st1, seqOf st1 d = lstOf st1 d := fun st1 => by
      cases d <;> first | rfl | exact absurd ⟨_, rfl⟩ ht
    obtain ⟨a, vs, ex, hq, rs⟩ := lst_of R r ((hsl st).symm.trans e)
    refine ⟨true, a, ex, fun ι1 H1 st1 s R1 e1 => ?_⟩
    obtain ⟨a2, ws, ex2, hq2, rs2⟩ := lst_of R1 (r.step s) ((hsl st1).symm.trans e1)
    rw [ex] at ex2
    cases ex2
    exact ⟨ws, .inl hq2, rs2⟩
end
section
variable {X : Cx} {C : Ctx} {E : XK} {e e2 : Expr} {p pos tpos : Pos} {elts : List Expr} {kk : Nat} {ma mb : Env → M D}
def iEnumB (K : PySem.W.Frag) (ta : TA) : TI := fun σ H R => ta σ H fun vs H1 => ∃ (b : Bool) (a : Addr) (xs : List V), vs = [.ref a] ∧ SqB b K H1 a xs ∧ R (IteB b K a) H1
theorem pi_enumB {ta : TA} (ha : PA X [e] ta) (hm : X.mg "enumerate" = none) (hg : Gl X "enumerate") (hs : starEach [e] X.env = [(false, eval e X.env)]) : PI X (.Tuple elts kk tpos) (.Call (.Name "enumerate" p) [e] [] pos) (iEnumB X.K ta) := by
  refine ⟨fun pins s σ H R I h => ?_⟩
  refine Call_ (ld_blt I hg hm boot_enumerate (PyProof.Rows.callWith_type1 (thn (ha.run pos pins s σ H _ I h) fun us s1 ⟨vs, H1, I1, r1, q1⟩ => ?_) hs rfl))
  obtain ⟨b, a, xs, rfl, hq, q⟩ := q1
  cases r1 with
  | cons r rr =>
    cases rr
    cases r
    obtain ⟨its, rv, ct, hal, _⟩ := sqB_get I1 hq
    refine call_enum1 (beginsS b a its.toArray) ct fun h' he hit hk => wpAny_pyIter_enum he ?_
    have I2 : Inv X pins σ H1 { s1 with heap := h' } := I1.kept (t' := s1.toks) hk
    refine ⟨s1.heap.objs.size + 1, [s1.heap.objs.size + 1, s1.heap.objs.size], _, _, H1, rfl, I2, turn_enumB b a (s1.heap.objs.size + 1) s1.heap.objs.size (Nat.succ_ne_self _) (Nat.ne_of_gt (Nat.lt_succ_of_lt hal)) (Nat.ne_of_lt hal), ⟨⟨.none, he⟩, itS_new hit⟩, fun c hc => ?_, q⟩
    have hle : s1.heap.objs.size ≤ c := by
      rcases List.mem_cons.mp hc with z | z
      · rw [z]; exact Nat.le_add_right _ _
      · rw [List.mem_singleton.mp z]; exact Nat.le_refl _
    exact I1.fpOk hle (I1.hok.fresh hle)
theorem i_enum (ha : PE X e (rdE C E ma)) (hK : X.K = C.K) (hm : X.mg "enumerate" = none) (hg : Gl X "enumerate" := by rfl) (hs : starEach [e] X.env = [(false, eval e X.env)] := by rfl) (hs' : starEach [e] X.env = (false, eval e X.env) :: starEach [] X.env := by rfl) :
    PI X (.Tuple elts kk tpos) (.Call (.Name "enumerate" p) [e] [] pos) (rdI C E (itEnum ma)) :=
  (pi_enumB (pa_cons ha pa_nil hs') hm hg hs).mono fun σ H R ⟨env, ι, st, re, Rl0, q⟩ => ⟨env, ι, st, re, Rl0, (Pst.bind (rel := Rel1 C.K) q).mono fun x H1 ⟨d, ι1, st1, s1, R1, r1, q1⟩ => by
    replace q1 : Pst C (RelIt C) E ι1 H1 R (enumSrc d st1) := q1
    unfold enumSrc at q1
    cases e1 : seqOf st1 d with
    | none => simp only [e1] at q1; exact q1.elim
    | some ds =>
      simp only [e1] at q1
      obtain ⟨b, a, rfl, hk⟩ := kind_of R1 r1 e1
      obtain ⟨ws0, hw0, _⟩ := hk ι1 H1 st1 (Stp.refl _ _) R1 e1
      rw [hK]
      refine ⟨b, a, ws0, rfl, hw0, Pst.pure (rel := RelIt C) q1 R1 fun ι2 H2 st2 i s2 R2 e2 => ?_⟩
      obtain ⟨ws, hw, rw'⟩ := hk ι2 H2 st2 s2 R2 e2
      refine ⟨fun hi => ⟨ws, hw, ?_⟩, fun dd hd => ?_⟩
      · rw [hi, rw'.length]
        exact enumL_len ds
      · obtain ⟨d0, hd0, rfl⟩ := enumL_get hd
        obtain ⟨v, hv, rv⟩ := rw'.get hd0
        refine ⟨⟨ws, v, hw, hv⟩, fun y H' hy => ?_⟩
        obtain ⟨T, x, rfl, nT, rfl, hx⟩ := hy
        have ev := hx ws hw
        rw [hv] at ev
        cases ev
        exact ⟨Stp.new1 nT, R2.new1 nT, .tup (.inl ⟨.inl upd_same, R2.fresh nT⟩) (.cons (.int _) (.cons (rv.step (Stp.new1 nT)) .nil))⟩⟩
end

/-! ### zip -/
def ItzB (b c : Bool) (K : PySem.W.Frag) (a d : Addr) : It :=
  ⟨fun i H => ∃ (xs ys : List V) (x y : V), SqB b K H a xs ∧ SqB c K H d ys ∧ xs[i]? = some x ∧ ys[i]? = some y,
    fun i H v H' => ∃ T x y, v = .ref T ∧ H T = none ∧ H' = upd H T (.tup [x, y]) ∧ (∀ xs, SqB b K H a xs → xs[i]? = some x) ∧ ∀ ys, SqB c K H d ys → ys[i]? = some y,
    fun i H => ∃ xs ys : List V, SqB b K H a xs ∧ SqB c K H d ys ∧ i = min xs.length ys.length⟩
theorem turn_zipB (b c : Bool) {P : Program} {w : World} {K : PySem.W.Frag} {elts : List Expr} {kk : Nat} {tpos : Pos} (a d : Addr) (N : Nat) (ha : a < N) (hd : d < N) :
    Turn P w K (.Tuple elts kk tpos) (ItzB b c K a d) [N + 4, N + 2, N + 3, N, N + 1] (N + 4)
      (fun i h => IsZip h (N + 4) (N + 2) (N + 3) .none ∧ IsTupOf2 h (N + 2) (.ref N) (.ref (N + 1)) ∧ (∃ a1 a2, IsTupOf2 h (N + 3) a1 a2) ∧ ItS b h N a i ∧ ItS c h (N + 1) d i) where
  mem := by simp
  obj := fun i h st q hq => by
    obtain ⟨hz, hTI, ⟨x, y, hTO⟩, h1, h2⟩ := st
    have e' : q = N + 4 ∨ q = N + 2 ∨ q = N + 3 ∨ q = N ∨ q = N + 1 := by simpa using hq
    rcases e' with z | z | z | z | z
    · rw [z]; exact ⟨_, hz, fun v q => nomatch q⟩
    · rw [z]; exact ⟨_, hTI, fun v q => nomatch q⟩
    · rw [z]; exact ⟨_, hTO, fun v q => nomatch q⟩
    · rw [z]; exact h1.obj
    · rw [z]; exact h2.obj
  keep := fun i h h' st k => by
    obtain ⟨hz, hTI, ⟨x, y, hTO⟩, h1, h2⟩ := st
    exact ⟨k _ (by simp) _ hz, k _ (by simp) _ hTI, ⟨x, y, k _ (by simp) _ hTO⟩, h1.move fun o q => k _ (by simp) o q, h2.move fun o q => k _ (by simp) o q⟩
  item := by
    intro X hP hw hK hc i pins s σ H E I hf st hg
    subst hP hw hK
    obtain ⟨hz, hTI, hTO, h1, h2⟩ := st
    obtain ⟨xs, ys, x, y, hqx, hqy, hx, hy⟩ := hg
    obtain ⟨its, rv, ct, _⟩ := sqB_get I hqx
    obtain ⟨its2, rv2, ct2, _⟩ := sqB_get I hqy
    obtain ⟨u, hu, ru⟩ := rv.get hx
    obtain ⟨u2, hu2, ru2⟩ := rv2.get hy
    have hlt : i < min its.toArray.size its2.toArray.size := by
      rw [List.size_toArray, List.size_toArray]
      exact Nat.lt_min.mpr ⟨(List.getElem?_eq_some_iff.mp hu).1, (List.getElem?_eq_some_iff.mp hu2).1⟩
    have S : ZipSep2 (N + 4) (N + 2) (N + 3) N (N + 1) (N :: [a]) ((N + 1) :: [d]) := zip_sep2 (fun z hz => by rw [List.mem_singleton.mp hz]; exact ha) (fun z hz => by rw [List.mem_singleton.mp hz]; exact hd)
    have W := GoesN.zip2 (prog := X.prog) (w := X.w) (A := X.A) (elts := elts) (x1 := kk) (pos := tpos) S (drawsS b (prog := X.prog) (w := X.w) (A := X.A.in1) (I.ok.hd hc) N a (Nat.ne_of_lt ha) its.toArray) (drawsS c (prog := X.prog) (w := X.w) (A := X.A.in1) (I.ok.hd hc) (N + 1) d (Nat.ne_of_lt (Nat.lt_succ_of_lt hd)) its2.toArray)
    have nin : ∀ z, z ∈ [N + 4, N + 2, N + 3, N, N + 1] → z < s.heap.objs.size := fun z hz' => by
      have e' : z = N + 4 ∨ z = N + 2 ∨ z = N + 3 ∨ z = N ∨ z = N + 1 := by simpa using hz'
      rcases e' with q | q | q | q | q
      · rw [q]; exact Heap.lt_size hz
      · rw [q]; exact Heap.lt_size hTI
      · obtain ⟨_, _, hTO⟩ := hTO; rw [q]; exact Heap.lt_size hTO
      · obtain ⟨o, ho, _⟩ := h1.obj; rw [q]; exact Heap.lt_size ho
      · obtain ⟨o, ho, _⟩ := h2.obj; rw [q]; exact Heap.lt_size ho
    refine W.goes i s (fun v s2 => ∃ x H', Inv X pins σ H' s2 ∧ RelV x v ∧ (ItzB b c X.K a d).yld i H x H' ∧ (IsZip s2.heap (N + 4) (N + 2) (N + 3) .none ∧ IsTupOf2 s2.heap (N + 2) (.ref N) (.ref (N + 1)) ∧ (∃ a1 a2, IsTupOf2 s2.heap (N + 3) a1 a2) ∧ ItS b s2.heap N a (i + 1) ∧ ItS c s2.heap (N + 1) d (i + 1)) ∧ ∀ q ∈ [N + 4, N + 2, N + 3, N, N + 1], H' q = none) E hlt ⟨hz, hTI, hTO, ⟨h1, ct⟩, ⟨h2, ct2⟩⟩ fun v h' tk hY st' hk _ => ?_
    obtain ⟨T, v1, v2, rfl, hT, hv1, hv2, hTu⟩ := hY
    have e1 : v1 = u := by
      have z : its.toArray[i]? = some u := by rw [List.getElem?_toArray]; exact hu
      rw [z] at hv1
      exact (Option.some.inj hv1).symm
    have e2 : v2 = u2 := by
      have z : its2.toArray[i]? = some u2 := by rw [List.getElem?_toArray]; exact hu2
      rw [z] at hv2
      exact (Option.some.inj hv2).symm
    subst e1 e2
    have new : ObjOk X.prog X.w (upd H T (.tup [x, y])) h' T (.tup [x, y]) := ⟨by show 2 ≤ sizeLine; decide, [v1, v2], .cons ru (.cons ru2 .nil), hTu⟩
    have I1 : Inv X pins σ (upd H T (.tup [x, y])) { s with heap := h', toks := tk } := I.turnedNew (ch := [N + 4, N + 2, N + 3, N, N + 1]) (fun b o hb q => hk b o (fun z => hb (by
      have e' : b = N + 4 ∨ b = N + 3 ∨ b = N ∨ b = N + 1 := by simpa using z
      rcases e' with w | w | w | w <;> rw [w] <;> simp)) q) hf hT new
    obtain ⟨z1, z2, z3, ⟨z4, _⟩, ⟨z5, _⟩⟩ := st'
    refine ⟨.ref T, _, I1, rfl, ⟨T, x, y, rfl, I.hok.fresh hT, rfl, fun zs hz => by rw [sqB_inj I hz hqx]; exact hx, fun zs hz => by rw [sqB_inj I hz hqy]; exact hy⟩, ⟨z1, z2, z3, z4, z5⟩, fun q hq => ?_⟩
    rw [upd_ne (Nat.ne_of_lt (Nat.lt_of_lt_of_le (nin q hq) hT))]
    exact (hf q hq).1
  done := by
    intro X hP hw hK hc i pins s σ H E I hf st hg
    subst hP hw hK
    obtain ⟨hz, hTI, hTO, h1, h2⟩ := st
    obtain ⟨xs, ys, hqx, hqy, hi⟩ := hg
    obtain ⟨its, rv, ct, _⟩ := sqB_get I hqx
    obtain ⟨its2, rv2, ct2, _⟩ := sqB_get I hqy
    have S : ZipSep2 (N + 4) (N + 2) (N + 3) N (N + 1) (N :: [a]) ((N + 1) :: [d]) := zip_sep2 (fun z hz => by rw [List.mem_singleton.mp hz]; exact ha) (fun z hz => by rw [List.mem_singleton.mp hz]; exact hd)
    have W := GoesN.zip2 (prog := X.prog) (w := X.w) (A := X.A) (elts := elts) (x1 := kk) (pos := tpos) S (drawsS b (prog := X.prog) (w := X.w) (A := X.A.in1) (I.ok.hd hc) N a (Nat.ne_of_lt ha) its.toArray) (drawsS c (prog := X.prog) (w := X.w) (A := X.A.in1) (I.ok.hd hc) (N + 1) d (Nat.ne_of_lt (Nat.lt_succ_of_lt hd)) its2.toArray)
    have hn : min its.toArray.size its2.toArray.size = i := by rw [List.size_toArray, List.size_toArray, ← rv.length, ← rv2.length, hi]
    refine W.stops s (fun s2 => Inv X pins σ H s2) E ?_ fun h' tk hk _ => I.turnedL (ch := [N + 4, N + 2, N + 3, N, N + 1]) (t' := tk) (fun b o hb q => hk b o (fun z => hb (by
      have e' : b = N + 4 ∨ b = N + 3 ∨ b = N ∨ b = N + 1 := by simpa using z
      rcases e' with w | w | w | w <;> rw [w] <;> simp)) q) hf
    rw [hn]
    exact ⟨hz, hTI, hTO, ⟨h1, ct⟩, ⟨h2, ct2⟩⟩
  self := fun A i s Q E st h => wpAny_pyIter_zip st.1 h
def zipL (xs ys : List D) : List D := List.zipWith (fun a b => .tup [a, b]) xs ys
theorem zipL_get {xs ys : List D} {i : Nat} {e : D} (h : (zipL xs ys)[i]? = some e) : ∃ a b, xs[i]? = some a ∧ ys[i]? = some b ∧ e = .tup [a, b] := by
  unfold zipL at h
  rw [List.getElem?_zipWith] at h
  cases e1 : xs[i]? with
  | none => rw [e1] at h; cases h
  | some a =>
    cases e2 : ys[i]? with
    | none => rw [e1, e2] at h; cases h
    | some b =>
      rw [e1, e2] at h
      exact ⟨a, b, rfl, rfl, (Option.some.inj h).symm⟩
def zipSrc (c d : D) : M Src := fun st => match seqOf st c, seqOf st d with
  | some xs, some ys => .ok (zipL xs ys, fun st' => seqOf st' c = some xs ∧ seqOf st' d = some ys) st
  | _, _ => .bad
def itZip (a b : Env → M D) : Env → M Src := fun env => a env >>= fun x => b env >>= fun y => zipSrc x y
section
variable {X : Cx} {C : Ctx} {E : XK} {e e2 : Expr} {p pos tpos : Pos} {elts : List Expr} {kk : Nat} {ma mb : Env → M D}
def iZipB (K : PySem.W.Frag) (ta : TA) : TI := fun σ H R => ta σ H fun vs H1 => ∃ (b c : Bool) (a d : Addr) (xs ys : List V), vs = [.ref a, .ref d] ∧ SqB b K H1 a xs ∧ SqB c K H1 d ys ∧ R (ItzB b c K a d) H1
theorem pi_zipB {ta : TA} (hw : PA X [e, e2] ta) (hm : X.mg "zip" = none) (hg : Gl X "zip") (hs : starEach [e, e2] X.env = (false, eval e X.env) :: starEach [e2] X.env) (hpl : (backTo pos (starEach [e2] X.env)).any (·.1) = false) :
    PI X (.Tuple elts kk tpos) (.Call (.Name "zip" p) [e, e2] [] pos) (iZipB X.K ta) := by
  refine ⟨fun pins s σ H R I h => ?_⟩
  refine Call_ (ld_blt I hg hm PyProof.Rows.boot_zip (PyProof.Rows.callWith_type1 (thn (hw.run pos pins s σ H _ I h) fun us s1 ⟨vs, H1, I1, r1, q1⟩ => ?_) hs hpl))
  obtain ⟨b, c, a, d, xs, ys, rfl, hqx, hqy, q⟩ := q1
  obtain ⟨u1, u2, rfl, k1, k2⟩ := vals2 r1
  cases k1
  cases k2
  obtain ⟨its, _, ct, hal, _⟩ := sqB_get I1 hqx
  obtain ⟨its2, _, ct2, hdl, _⟩ := sqB_get I1 hqy
  refine zip_begins2 (beginsS b a its.toArray) (beginsS c d its2.toArray) ct ct2 fun h' hz hTI hTO hi1 hi2 _ hk => wpAny_pyIter_zip hz ?_
  have I2 : Inv X pins σ H1 { s1 with heap := h' } := I1.kept (t' := s1.toks) hk
  refine ⟨s1.heap.objs.size + 4, [s1.heap.objs.size + 4, s1.heap.objs.size + 2, s1.heap.objs.size + 3, s1.heap.objs.size, s1.heap.objs.size + 1], _, _, H1, rfl, I2, turn_zipB b c a d s1.heap.objs.size hal hdl, ⟨hz, hTI, ⟨_, _, hTO⟩, itS_new hi1, itS_new hi2⟩, fun z hz' => ?_, q⟩
  have e' : z = s1.heap.objs.size + 4 ∨ z = s1.heap.objs.size + 2 ∨ z = s1.heap.objs.size + 3 ∨ z = s1.heap.objs.size ∨ z = s1.heap.objs.size + 1 := by simpa using hz'
  have hle : s1.heap.objs.size ≤ z := by
    rcases e' with w | w | w | w | w <;> rw [w] <;> first | exact Nat.le_refl _ | exact Nat.le_add_right _ _
  exact I1.fpOk hle (I1.hok.fresh hle)
theorem i_zip (ha : PE X e (rdE C E ma)) (hb : PE X e2 (rdE C E mb)) (hK : X.K = C.K) (hm : X.mg "zip" = none) (hg : Gl X "zip" := by rfl) (hs : starEach [e, e2] X.env = (false, eval e X.env) :: starEach [e2] X.env := by rfl) (hs2 : starEach [e2] X.env = (false, eval e2 X.env) :: starEach [] X.env := by rfl)
    (hpl : (backTo pos (starEach [e2] X.env)).any (·.1) = false := by rfl) : PI X (.Tuple elts kk tpos) (.Call (.Name "zip" p) [e, e2] [] pos) (rdI C E (itZip ma mb)) :=
  (pi_zipB (pa_cons ha (pa_cons hb pa_nil hs2) hs) hm hg hs hpl).mono fun σ H R ⟨env, ι, st, re, Rl0, q⟩ => ⟨env, ι, st, re, Rl0, (Pst.bind (rel := Rel1 C.K) q).mono fun x H1 ⟨d, ι1, st1, s1, R1, r1, q1⟩ =>
    ⟨env, ι1, st1, re.step s1, R1, (Pst.bind (rel := Rel1 C.K) q1).mono fun y H2 ⟨d', ι2, st2, s2, R2, r2, q2⟩ => by
      replace q2 : Pst C (RelIt C) E ι2 H2 R (zipSrc d d' st2) := q2
      unfold zipSrc at q2
      cases e1 : seqOf st2 d with
      | none => simp only [e1] at q2; exact q2.elim
      | some ds =>
        cases e2' : seqOf st2 d' with
        | none => simp only [e1, e2'] at q2; exact q2.elim
        | some es =>
          simp only [e1, e2'] at q2
          obtain ⟨b, a, rfl, hk⟩ := kind_of R2 (Rp.step s2 r1) e1
          obtain ⟨c, a', rfl, hk'⟩ := kind_of R2 r2 e2'
          obtain ⟨ws0, hw0, _⟩ := hk ι2 H2 st2 (Stp.refl _ _) R2 e1
          obtain ⟨zs0, hz0, _⟩ := hk' ι2 H2 st2 (Stp.refl _ _) R2 e2'
          rw [hK]
          refine ⟨b, c, a, a', ws0, zs0, rfl, hw0, hz0, Pst.pure (rel := RelIt C) q2 R2 fun ι3 H3 st3 i s3 R3 e3 => ?_⟩
          obtain ⟨ws, hw, rw'⟩ := hk ι3 H3 st3 s3 R3 e3.1
          obtain ⟨zs, hz, rz⟩ := hk' ι3 H3 st3 s3 R3 e3.2
          refine ⟨fun hi => ⟨ws, zs, hw, hz, ?_⟩, fun dd hd => ?_⟩
          · rw [hi, rw'.length, rz.length]
            exact List.length_zipWith
          · obtain ⟨d0, d1, hd0, hd1, rfl⟩ := zipL_get hd
            obtain ⟨v, hv, rv⟩ := rw'.get hd0
            obtain ⟨v', hv', rv'⟩ := rz.get hd1
            refine ⟨⟨ws, zs, v, v', hw, hz, hv, hv'⟩, fun y H' hy => ?_⟩
            obtain ⟨T, x1, x2, rfl, nT, rfl, hx1, hx2⟩ := hy
            have ev := hx1 ws hw
            rw [hv] at ev
            cases ev
            have ev' := hx2 zs hz
            rw [hv'] at ev'
            cases ev'
            exact ⟨Stp.new1 nT, R3.new1 nT, .tup (.inl ⟨.inl upd_same, R3.fresh nT⟩) (.cons (rv.step (Stp.new1 nT)) (.cons (rv'.step (Stp.new1 nT)) .nil))⟩⟩⟩
end
end Mir

namespace Mir
open PySem PySem.Spec PyProof.Rows L2

/-! ### stores by place -/
def putD (kvs : List (Key × D)) (k : Key) (v : D) : List (Key × D) := if (kvs.any fun kv => decide (kv.1 = k)) = true then kvs.map (fun kv => if kv.1 = k then (kv.1, v) else kv) else kvs ++ [(k, v)]
def setD (o i v : D) : M Unit := fun st => match o with
  | .obj n => match st[n]? with
    | some (.lst xs) => match i with
      | .int k => match ixN xs.length k with
        | some j => .ok () (st.set n (.lst (xs.set j v)))
        | none => .bad
      | _ => .bad
    | some (.dic kvs) => match keyD i with
      | some k => if szOk (kvs.length + 1) then .ok () (st.set n (.dic (putD kvs k v))) else .bad
      | none => .bad
    | _ => .bad
  | _ => .bad
theorem putD_rel {K : PySem.W.Frag} {ι : Ix} {H : Hp} {v : V} {d : D} (k : Key) (rv : Rp K ι H v d) {ps : List (Key × V)} {kvs : List (Key × D)} (h : Rkv K ι H ps kvs) : Rkv K ι H (putK ps k v) (putD kvs k d) := by
  have anyE : ∀ {ps : List (Key × V)} {kvs : List (Key × D)}, Rkv K ι H ps kvs → (ps.any fun kv => decide (kv.1 = k)) = (kvs.any fun kv => decide (kv.1 = k)) := by
    intro ps kvs h
    induction h with
    | nil => rfl
    | cons r t ih => rw [List.any_cons, List.any_cons, ih, r.1]
  have mapE : ∀ {ps : List (Key × V)} {kvs : List (Key × D)}, Rkv K ι H ps kvs → Rkv K ι H (ps.map fun kv => if kv.1 = k then (kv.1, v) else kv) (kvs.map fun kv => if kv.1 = k then (kv.1, d) else kv) := by
    intro ps kvs h
    induction h with
    | nil => exact .nil
    | @cons p q _ _ r t ih =>
      rw [List.map_cons, List.map_cons]
      refine .cons ?_ ih
      by_cases z : q.1 = k
      · rw [if_pos z, if_pos (r.1.trans z)]
        exact ⟨r.1, rv⟩
      · rw [if_neg z, if_neg (fun w => z (r.1.symm.trans w))]
        exact r
  have appE : ∀ {ps : List (Key × V)} {kvs : List (Key × D)}, Rkv K ι H ps kvs → Rkv K ι H (ps ++ [(k, v)]) (kvs ++ [(k, d)]) := by
    intro ps kvs h
    induction h with
    | nil => exact .cons ⟨rfl, rv⟩ .nil
    | cons r t ih => exact .cons r ih
  unfold putK putD
  rw [anyE h]
  by_cases z : (kvs.any fun kv => decide (kv.1 = k)) = true
  · rw [if_pos z, if_pos z]
    exact mapE h
  · rw [if_neg z, if_neg z]
    exact appE h
def rSetU : V → V → V → Hp → (Hp → Prop) → Prop := fun o i v H Q => rSetL o i v H Q ∨ ∃ a H', o = .ref a ∧ DPut H a i v H' ∧ Q H'
section
variable {X : Cx} {C : Ctx} {E : XK}
theorem set_U (hu : X.A.units + 1 < cLine) : PSet X rSetU := fun pins s σ H o i v ov iv u Q I ro ri rv h => by
  rcases h with h | ⟨a, H', rfl, g, q⟩
  · exact set_list pins s σ H o i v ov iv u Q I ro ri rv h
  · obtain rfl : ov = Value.ref a := ro
    exact d_setItem hu I g ri rv fun s4 I4 => ⟨H', I4, q⟩
theorem rd_setD {α β : Type} {rel : Ix → Hp → β → α → Prop} {ι : Ix} {H : Hp} {st : Sto} {o i v : V} {od id vd : D} {f : Unit → M α} {Q : β → Hp → Prop} (R : Rl C ι H st) (ro : Rp C.K ι H o od) (ri : Rp C.K ι H i id) (rv : Rp C.K ι H v vd)
    (q : Pst C rel E ι H Q ((setD od id vd >>= f) st)) : rSetU o i v H fun H' => ∃ st', Stp ι H ι H' ∧ Rl C ι H' st' ∧ Pst C rel E ι H' Q (f () st') := by
  replace q : Pst C rel E ι H Q (Res.andThen (setD od id vd st) f) := q
  cases ro with
  | @obj a n e =>
    have hm : some a ∈ ι := List.mem_of_getElem? e
    cases s : st[n]? with
    | none => simp only [setD, s, Res.andThen] at q; exact q.elim
    | some ob =>
      have hob := R.at' _ _ _ s e
      cases ob with
      | ins _ _ => simp only [setD, s, Res.andThen] at q; exact q.elim
      | dead => simp only [setD, s, Res.andThen] at q; exact q.elim
      | lst xs =>
        obtain ⟨vs, hv, rs⟩ := hob
        cases ri with
        | int k =>
          cases e3 : ixN xs.length k with
          | none => simp only [setD, s, e3, Res.andThen] at q; exact q.elim
          | some j =>
            simp only [setD, s, e3, Res.andThen] at q
            refine .inl ⟨a, vs, k, j, rfl, rfl, hv, by rw [rs.length]; exact e3, _, Stp.put hm, R.put (ob := .lst (xs.set j vd)) e (fun s' => ⟨_, upd_same, (rs.set rv j).step s'⟩), Pst.step q (Stp.put hm)⟩
        | _ => simp only [setD, s, Res.andThen] at q; exact q.elim
      | dic kvs =>
        obtain ⟨ps, hp, rk⟩ := hob
        cases e3 : keyD id with
        | none => simp only [setD, s, e3, Res.andThen] at q; exact q.elim
        | some k =>
          cases c : szOk (kvs.length + 1) with
          | false => simp only [setD, s, e3, c, Res.andThen] at q; exact q.elim
          | true =>
            simp only [setD, s, e3, c, if_true, Res.andThen] at q
            have hl : kvs.length + 1 ≤ sizeLine := of_decide_eq_true c
            rw [key_of ri e3]
            exact .inr ⟨a, _, rfl, DPut.k hp (by rw [rk.length]; exact hl), _, Stp.put hm, R.put (ob := .dic (putD kvs k vd)) e (fun s' => ⟨_, upd_same, (putD_rel k rv rk).step s'⟩), Pst.step q (Stp.put hm)⟩
  | dead e => simp only [setD, R.dead _ e, Res.andThen] at q; exact q.elim
  | _ => exact q.elim
/-- o[i] = e -/
def sSetI (a o i : Env → M D) : SM := fun env => a env >>= fun v => o env >>= fun ov => i env >>= fun iv => setD ov iv v >>= fun _ => pure (.nx, env)
variable {e o i : Expr} {pos pos' : Pos} {ma mo mi : Env → M D}
theorem s_setI (c : Cap X C E k) (he : PE X e (rdE C E ma)) (ho : PE X o (rdE C E mo)) (hi : PE X i (rdE C E mi))
    (ha : ∀ v, assign (.Subscript o i pos') X.env v = (do
      let ov ← holding [v] (eval o X.env)
      let iv ← holding [v, ov] (eval i X.env)
      standAt pos'
      holding [v, ov, iv] (setItem ov iv v)
      release [v, ov, iv] []) := by intro _; rfl)
    (hs : swapsWithSole [.Subscript o i pos'] e pos.line X.env = pure false := by rfl) (hw : swappedStores [.Subscript o i pos'] e X.env = pure none := by rfl) (h1 : (assignEach [.Subscript o i pos'] X.env).map (·.2) = [assign (.Subscript o i pos') X.env] := by rfl) :
    PS X (.Assign [.Subscript o i pos'] e pos) (rdS C E (sSetI ma mo mi)) :=
  (ps_asg he (pg_sub ho hi (set_U c.u1) ha) hs hw h1).mono fun D σ H ⟨env, ι, st, re, R, q⟩ => ⟨env, ι, st, re, R, (Pst.bind (rel := Rel1 C.K) q).mono fun v H1 ⟨vd, ι1, st1, s1, R1, r1, q1⟩ =>
    ⟨env, ι1, st1, re.step s1, R1, (Pst.bind (rel := Rel1 C.K) q1).mono fun ov H2 ⟨od, ι2, st2, s2, R2, r2, q2⟩ => ⟨env, ι2, st2, re.step (s1.trans s2), R2, (Pst.bind (rel := Rel1 C.K) q2).mono fun iv H3 ⟨idd, ι3, st3, s3, R3, r3, q3⟩ => by
      have h := rd_setD (rel := RelFl C.K) R3 (Rp.step s3 r2) r3 (Rp.step (s2.trans s3) r1) q3
      have re3 := re.step (s1.trans (s2.trans s3))
      rcases h with ⟨p, xs, kk, j, e1, e2, e3, e4, st', s', R', q'⟩ | ⟨p, H', e1, g, st', s', R', q'⟩
      · exact .inl ⟨p, xs, kk, j, e1, e2, e3, e4, (Pst.pure (rel := RelFl C.K) (Q := endQ D) (b := .nx σ) q' R' (re3.step s') : D.nx _ _)⟩
      · exact .inr ⟨p, H', e1, g, (Pst.pure (rel := RelFl C.K) (Q := endQ D) (b := .nx σ) q' R' (re3.step s') : D.nx _ _)⟩⟩⟩⟩
end

/-! ### methods of lists -/
/-- the receiver a list; the arguments; the deed -/
def eLM (f : D → List D → M D) (o : Env → M D) (a : Env → M (List D)) : Env → M D := fun env => o env >>= fun d => (fun st => if (lstOf st d).isSome then .ok () st else .bad : M Unit) >>= fun _ => a env >>= fun ds => f d ds
def MetD (C : Ctx) (r : V → List V → Hp → VK → Prop) (f : D → List D → M D) : Prop := ∀ (E : XK) (ι : Ix) (H : Hp) (st : Sto) (v : V) (vs : List V) (d : D) (ds : List D) (Q : VK), Rl C ι H st → Rp C.K ι H v d → Rps C.K ι H vs ds → Pst C (Rel1 C.K) E ι H Q (f d ds st) → r v vs H Q
section
variable {X : Cx} {C : Ctx} {E : XK} {k : Nat} {o e : Expr} {es : List Expr} {name : Str} {id : String} {apos cpos : Pos} {mo : Env → M D} {mr : Env → M (List D)} {r : V → List V → Hp → VK → Prop} {f : D → List D → M D}
theorem rd_lm (h : MetD C r f) {σ : L2.St} {H : Hp} {Q : VK} (q : rdE C E (eLM f mo mr) σ H Q) : tBM C.K "list" r (rdE C E mo) (rdA C E mr) σ H Q := by
  obtain ⟨env, ι, st, re, R, q⟩ := q
  refine ⟨env, ι, st, re, R, (Pst.bind (rel := Rel1 C.K) q).mono ?_⟩
  rintro x H1 ⟨d, ι1, st1, s1, R1, r1, q1⟩
  replace q1 : Pst C (Rel1 C.K) E ι1 H1 Q (Res.andThen (if (lstOf st1 d).isSome then Res.ok () st1 else Res.bad) fun _ => mr env >>= fun ds => f d ds) := q1
  cases e1 : lstOf st1 d with
  | none => simp only [e1, Option.isSome_none, Res.andThen] at q1; exact q1.elim
  | some xs =>
    simp only [e1, Option.isSome_some, if_true, Res.andThen] at q1
    obtain ⟨a, vs, rfl, hq, rs⟩ := lst_of R1 r1 e1
    refine ⟨.inl ⟨rfl, vs, .inl hq⟩, env, ι1, st1, re.step s1, R1, (Pst.bind (rel := RelA C.K) q1).mono ?_⟩
    rintro us H2 ⟨ds, ι2, st2, s2, R2, r2, q2⟩
    exact h E ι2 H2 st2 _ us d ds Q R2 (Rp.step s2 r1) r2 q2
theorem met1 {r : V → List V → Hp → VK → Prop} {f : D → D → M D} (h : ∀ (E : XK) (ι : Ix) (H : Hp) (st : Sto) (v u : V) (d e : D) (Q : VK), Rl C ι H st → Rp C.K ι H v d → Rp C.K ι H u e → Pst C (Rel1 C.K) E ι H Q (f d e st) → r v [u] H Q) : MetD C r (fun d ds => fn1 (f d) ds) := by
  intro E ι H st v vs d ds Q R r1 rs q
  cases rs with
  | nil => exact q.elim
  | cons r2 rs =>
    cases rs with
    | nil => exact h E ι H st _ _ _ _ Q R r1 r2 q
    | cons _ _ => exact q.elim
theorem met2 {r : V → List V → Hp → VK → Prop} {f : D → D → D → M D} (h : ∀ (E : XK) (ι : Ix) (H : Hp) (st : Sto) (v u w : V) (d e g : D) (Q : VK), Rl C ι H st → Rp C.K ι H v d → Rp C.K ι H u e → Rp C.K ι H w g → Pst C (Rel1 C.K) E ι H Q (f d e g st) → r v [u, w] H Q) : MetD C r (fun d ds => fn2 (f d) ds) := by
  intro E ι H st v vs d ds Q R r1 rs q
  cases rs with
  | nil => exact q.elim
  | cons r2 rs =>
    cases rs with
    | nil => exact q.elim
    | cons r3 rs =>
      cases rs with
      | nil => exact h E ι H st _ _ _ _ _ _ Q R r1 r2 r3 q
      | cons _ _ => exact q.elim
/-- append -/
def appD (d y : D) : M D := match d with
  | .obj n => appO n y >>= fun _ => pure .non
  | _ => bad
theorem md_append : MetD C rAppend fun d ds => fn1 (appD d) ds := met1 fun E ι H st v u d e Q R r1 r2 q => by
  cases r1 with
  | @obj a n e1 =>
    replace q : Pst C (Rel1 C.K) E ι H Q (Res.andThen (appO n e st) fun _ => pure .non) := q
    cases s : st[n]? with
    | none => simp only [appO, s, Res.andThen] at q; exact q.elim
    | some ob =>
      have hob := R.at' _ _ _ s e1
      cases ob with
      | lst acc =>
        cases c : szOk (acc.length + 1) with
        | false => simp only [appO, s, c, Res.andThen] at q; exact q.elim
        | true =>
          simp only [appO, s, c, if_true, Res.andThen] at q
          obtain ⟨xs, hx, rx⟩ := hob
          have hz : acc.length + 1 ≤ sizeLine := of_decide_eq_true c
          have sP : Stp ι H ι (upd H a (.lst (xs ++ [u]))) := Stp.put (List.mem_of_getElem? e1)
          exact ⟨a, xs, u, rfl, rfl, hx, by rw [rx.length]; exact hz, Pst.pure (rel := Rel1 C.K) (Pst.step q sP) (R.put (ob := .lst (acc ++ [e])) e1 fun s' => ⟨_, upd_same, (rx.append (.cons r2 .nil)).step s'⟩) .non⟩
      | dic _ => simp only [appO, s, Res.andThen] at q; exact q.elim
      | ins _ _ => simp only [appO, s, Res.andThen] at q; exact q.elim
      | dead => simp only [appO, s, Res.andThen] at q; exact q.elim
  | dead e =>
    replace q : Pst C (Rel1 C.K) E ι H Q (Res.andThen (appO _ _ st) fun _ => pure .non) := q
    simp only [appO, R.dead _ e, Res.andThen] at q
    exact q.elim
  | _ => exact q.elim
/-- pop(i) -/
def popD (d y : D) : M D := fun st => match d with
  | .obj n => match st[n]?, y with
    | some (.lst xs), .int i => if rngOk i then (match ixN xs.length i with
      | some j => (match xs[j]? with
        | some e => .ok e (st.set n (.lst (xs.eraseIdx j)))
        | none => .bad)
      | none => .bad) else .bad
    | _, _ => .bad
  | _ => .bad
theorem md_pop : MetD C rPopAt fun d ds => fn1 (popD d) ds := met1 fun E ι H st v u d e Q R r1 r2 q => by
  cases r1 with
  | @obj a n e1 =>
    replace q : Pst C (Rel1 C.K) E ι H Q (popD (.obj n) e st) := q
    cases s : st[n]? with
    | none => simp only [popD, s] at q; exact q.elim
    | some ob =>
      have hob := R.at' _ _ _ s e1
      cases ob with
      | lst xs =>
        obtain ⟨vs, hv, rv⟩ := hob
        cases r2 with
        | int i =>
          cases c : rngOk i with
          | false => simp only [popD, s, c] at q; exact q.elim
          | true =>
            cases e3 : ixN xs.length i with
            | none => simp only [popD, s, c, e3] at q; exact q.elim
            | some j =>
              cases e4 : xs[j]? with
              | none => simp only [popD, s, c, e3, e4] at q; exact q.elim
              | some d0 =>
                simp only [popD, s, c, e3, e4, if_true] at q
                obtain ⟨w, hw, rw'⟩ := rv.get e4
                have hb : -(2 ^ 62) ≤ i ∧ i < 2 ^ 62 := of_decide_eq_true c
                have sP : Stp ι H ι (upd H a (.lst (vs.eraseIdx j))) := Stp.put (List.mem_of_getElem? e1)
                refine ⟨a, vs, i, j, w, rfl, rfl, hv, by omega, by omega, ?_, hw, Pst.pure (rel := Rel1 C.K) (Pst.step q sP) (R.put (ob := .lst (xs.eraseIdx j)) e1 fun s' => ⟨_, upd_same, (rv.erase j).step s'⟩) (rw'.step sP)⟩
                rw [rv.length]
                exact (ixN_seq e3).1
        | _ => simp only [popD, s] at q; exact q.elim
      | dic _ => simp only [popD, s] at q; exact q.elim
      | ins _ _ => simp only [popD, s] at q; exact q.elim
      | dead => simp only [popD, s] at q; exact q.elim
  | dead e =>
    replace q : Pst C (Rel1 C.K) E ι H Q (popD (.obj _) _ st) := q
    simp only [popD, R.dead _ e] at q
    exact q.elim
  | _ => exact q.elim
/-- insert(i, y) -/
def insD (d i y : D) : M D := fun st => match d with
  | .obj n => match st[n]?, i with
    | some (.lst xs), .int k => if rngOk k && decide (0 ≤ k) && szOk (xs.length + 1) then .ok .non (st.set n (.lst (xs.take k.toNat ++ [y] ++ xs.drop k.toNat))) else .bad
    | _, _ => .bad
  | _ => .bad
def rInsert : V → List V → Hp → VK → Prop := fun x vs H Q => ∃ (l : Addr) (xs : List V) (i : Int) (y : V), x = .ref l ∧ vs = [.int i, y] ∧ H l = some (.lst xs) ∧ xs.length < sizeLine ∧ 0 ≤ i ∧ i < 2 ^ 63 ∧ Q .non (upd H l (.lst (xs.take i.toNat ++ [y] ++ xs.drop i.toNat)))
theorem mtr_insert : MtR X "list.insert" rInsert := mt_insert
theorem md_insert : MetD C rInsert fun d ds => fn2 (insD d) ds := met2 fun E ι H st v u w d e g Q R r1 r2 r3 q => by
  cases r1 with
  | @obj a n e1 =>
    replace q : Pst C (Rel1 C.K) E ι H Q (insD (.obj n) e g st) := q
    cases s : st[n]? with
    | none => simp only [insD, s] at q; exact q.elim
    | some ob =>
      have hob := R.at' _ _ _ s e1
      cases ob with
      | lst xs =>
        obtain ⟨vs, hv, rv⟩ := hob
        cases r2 with
        | int i =>
          cases c : (rngOk i && decide (0 ≤ i) && szOk (xs.length + 1)) with
          | false => simp only [insD, s, c] at q; exact q.elim
          | true =>
            simp only [insD, s, c, if_true] at q
            obtain ⟨c1, c2⟩ := Bool.and_eq_true_iff.mp c
            obtain ⟨c3, c4⟩ := Bool.and_eq_true_iff.mp c1
            have hb : -(2 ^ 62) ≤ i ∧ i < 2 ^ 62 := of_decide_eq_true c3
            have h0 : 0 ≤ i := of_decide_eq_true c4
            have hz : xs.length + 1 ≤ sizeLine := of_decide_eq_true c2
            have sP : Stp ι H ι (upd H a (.lst (vs.take i.toNat ++ [w] ++ vs.drop i.toNat))) := Stp.put (List.mem_of_getElem? e1)
            exact ⟨a, vs, i, w, rfl, rfl, hv, by rw [rv.length]; exact hz, h0, by omega, Pst.pure (rel := Rel1 C.K) (Pst.step q sP) (R.put (ob := .lst (xs.take i.toNat ++ [g] ++ xs.drop i.toNat)) e1 fun s' => ⟨_, upd_same, ((((rv.take _).append (.cons r3 .nil)).append (rv.drop _))).step s'⟩) .non⟩
        | _ => simp only [insD, s] at q; exact q.elim
      | dic _ => simp only [insD, s] at q; exact q.elim
      | ins _ _ => simp only [insD, s] at q; exact q.elim
      | dead => simp only [insD, s] at q; exact q.elim
  | dead e =>
    replace q : Pst C (Rel1 C.K) E ι H Q (insD (.obj _) _ _ st) := q
    simp only [insD, R.dead _ e] at q
    exact q.elim
  | _ => exact q.elim
theorem w_lm (c : Cap X C E k) (h : MetD C r f) (pe : PE X e (tBM X.K "list" r (rdE C E mo) (rdA C E mr))) : PE X e (rdE C E (eLM f mo mr)) :=
  pe.mono fun σ H Q q => by
    rw [c.hK]
    exact rd_lm h q
end
/-! ### a, b = x, y -/
section
variable {X : Cx} {C : Ctx} {E : XK} {k : Nat} {a b : Expr} {px py pt pos : Pos} {kt k2 : Nat} {pt2 : Pos} {x y : Str} {ma mb : Env → M D}
theorem s_par (c : Cap X C E k) (i j : Nat) (ha : PE X a (rdE C E ma)) (hb : PE X b (rdE C E mb)) (hij : i ≠ j := by decide) (hi : X.N[i]? = some x := by rfl) (hj : X.N[j]? = some y := by rfl)
    (hx : X.env.scope.names.lookup x = some .local := by rfl) (hy : X.env.scope.names.lookup y = some .local := by rfl)
    (hw : swappedStores [.Tuple [.Name x px, .Name y py] kt pt] (.Tuple [a, b] k2 pt2) X.env = pure (some [x, y]) := by rfl)
    (hs : swapsWithSole [.Tuple [.Name x px, .Name y py] kt pt] (.Tuple [a, b] k2 pt2) pos.line X.env = pure false := by rfl)
    (h1 : starEach [a, b] X.env = (false, eval a X.env) :: starEach [b] X.env := by rfl) (h2 : starEach [b] X.env = (false, eval b X.env) :: starEach [] X.env := by rfl) :
    PS X (.Assign [.Tuple [.Name x px, .Name y py] kt pt] (.Tuple [a, b] k2 pt2) pos) (rdS C E (sPar i j ma mb)) :=
  (ps_par c.calm c.nd hi hj hij hx hy (pa_cons ha (pa_cons hb pa_nil h2) h1) hw hs).mono fun D σ H ⟨env, ι, st, re, R, q⟩ => ⟨env, ι, st, re, R, (Pst.bind (rel := Rel1 C.K) q).mono fun v H1 ⟨d, ι1, st1, s1, R1, r1, q1⟩ =>
    ⟨env, ι1, st1, re.step s1, R1, (Pst.bind (rel := Rel1 C.K) q1).mono fun u H2 ⟨d2, ι2, st2, s2, R2, r2, q2⟩ => ⟨v, u, rfl, (Pst.pure (rel := RelFl C.K) (Q := endQ D) (b := .nx _) q2 R2 (((re.step (s1.trans s2)).set i (Rp.step s2 r1)).set j r2) : D.nx _ _)⟩⟩⟩
/-- x op= e -/
def sAug (i : Nat) (f : D → D → M D) (a : Env → M D) : SM := fun env => match env[i]? with
  | some (some d) => a env >>= fun e => f d e >>= fun z => pure (.nx, env.set i (some z))
  | _ => bad
variable {op : Operator} {f : D → D → M D} {r : R2} {e : Expr} {pos' : Pos}
theorem s_aug (c : Cap X C E k) (i : Nat) (ho : OpR X (inplaceOp op) r) (h : OpD C r f) (he : PE X e (rdE C E ma)) (hi : X.N[i]? = some x := by rfl) (hx : Loc X.env.scope x := by first | exact Or.inl rfl | exact Or.inr rfl) (hf : X.fn x = true ∨ X.env.scope.names.lookup x = some .local := by first | exact .inl rfl | exact .inr rfl) :
    PS X (.AugAssign (.Name x pos') op e pos) (rdS C E (sAug i f ma)) :=
  (ps_aug c.nd hi hx he ho hf).mono fun D σ H ⟨env, ι, st, re, R, q⟩ => by
    cases e1 : env[i]? with
    | none => simp only [sAug, e1] at q; exact q.elim
    | some od =>
      cases od with
      | none => simp only [sAug, e1] at q; exact q.elim
      | some d =>
        simp only [sAug, e1] at q
        obtain ⟨v, hv, rv⟩ := re.at' i d e1
        refine ⟨v, hv, env, ι, st, re, R, (Pst.bind (rel := Rel1 C.K) q).mono fun u H1 ⟨d1, ι1, st1, s1, R1, r1, q1⟩ => ?_⟩
        refine h E ι1 H1 st1 v u d d1 _ R1 (rv.step s1) r1 ((Pst.bind (rel := Rel1 C.K) q1).mono fun z H2 ⟨d2, ι2, st2, s2, R2, r2, q2⟩ => ?_)
        exact (Pst.pure (rel := RelFl C.K) (Q := endQ D) (b := .nx _) q2 R2 ((re.step (s1.trans s2)).set i r2) : D.nx _ _)
theorem op_imulW : OpR X (inplaceOp .Mult) (rI CMulW fun i j => .int (i * j)) := opI fun _ _ _ _ _ _ _ hc q => imul_int q hc.ok
theorem op_ifdiv : OpR X (inplaceOp .FloorDiv) (rI (fun _ j => j ≠ 0 ∧ j.natAbs.log2 < 9000) fun i j => .int (i.fdiv j)) := opI fun _ _ _ _ _ _ _ hc q => ifloordiv_int hc.1 q (.inl (PyProof.noPylong_of_log2 hc.2))
end
end Mir

namespace Mir
open PySem PySem.Spec PyProof.Rows L2

/-! ### in short -/
section
variable {X : Cx} {C : Ctx} {E : XK} {k : Nat} {a b d : Expr} {es : List Expr} {pos p : Pos} {ma mb md : Env → M D} {mr : Env → M (List D)}
theorem w_add (c : Cap X C E k) (ha : PE X a (rdE C E ma)) (hb : PE X b (rdE C E mb)) : PE X (.BinOp a .Add b pos) (rdE C E (eOp addD ma mb)) := w_op op_addU (by rw [c.hK]; exact od_add) ha hb
theorem w_sub (ha : PE X a (rdE C E ma)) (hb : PE X b (rdE C E mb)) : PE X (.BinOp a .Sub b pos) (rdE C E (eOp subD ma mb)) := w_op op_sub od_sub ha hb
theorem w_mul (ha : PE X a (rdE C E ma)) (hb : PE X b (rdE C E mb)) : PE X (.BinOp a .Mult b pos) (rdE C E (eOp mulD ma mb)) := w_op op_mulX od_mul ha hb
theorem w_fdiv (ha : PE X a (rdE C E ma)) (hb : PE X b (rdE C E mb)) : PE X (.BinOp a .FloorDiv b pos) (rdE C E (eOp fdivD ma mb)) := w_op op_fdivD od_fdiv ha hb
theorem w_mod (ha : PE X a (rdE C E ma)) (hb : PE X b (rdE C E mb)) : PE X (.BinOp a .Mod b pos) (rdE C E (eOp modD ma mb)) := w_op op_modN od_mod ha hb
theorem w_pow (ha : PE X a (rdE C E ma)) (hb : PE X b (rdE C E mb)) : PE X (.BinOp a .Pow b pos) (rdE C E (eOp powD ma mb)) := w_op op_pow od_pow ha hb
theorem w_neg (ha : PE X a (rdE C E ma)) : PE X (.UnaryOp .USub a pos) (rdE C E (eUn negD ma)) := w_un un_neg ud_neg ha
/-- list * int, tuple * int, int * int -/
def repD (a b : D) : M D := fun st => match a, b with
  | .int i, .int j => okIf (mulI i j) (.int (i * j)) st
  | .tup xs, .int j => if j = 1 then .ok (.tup xs) st else if j = 0 ∧ xs.isEmpty = false then .ok (.tup []) st else okIf (!xs.isEmpty && decide (2 ≤ j ∧ j ≤ 1000 ∧ xs.length ≤ 1000)) (.tup (List.replicate j.toNat xs).flatten) st
  | .lst xs, .int j => okIf (rngOk j && szOk (xs.length * j.toNat)) (.lst (List.replicate j.toNat xs).flatten) st
  | _, _ => .bad
theorem tup_mul1 (l : Addr) (items : Array Value) (n : Nat) (dd : Option Addr) (sl : Array (Option Value)) (u : Tok) :
    Meets (Builtin.«tuple.__mul__» ⟨[.ref l, .int 1 u], []⟩) (fun _ R s => s.heap.get? l = some { cls := .type "tuple", dict := dd, data := .seq items n, slots := sl } ∧ R (.ok (.ret (Value.ref l))) s) :=
  .of_wp fun prog w A R s h => by
    obtain ⟨hp, gs, dr, tk, os⟩ := s
    obtain ⟨hl, h⟩ := h
    have fi := AutoSeq1.idx_int
    wp_walk using AutoSeq1.wpAny_loadPart' hl
    exact ⟨_, rfl, h⟩
def rRep1 (K : PySem.W.Frag) : R2 := fun x y H Q => ∃ l xs, x = .ref l ∧ y = .int 1 ∧ SqT K H l xs ∧ Q (.ref l) H
theorem op_rep1 : OpR X (binaryOp .Mult) (rRep1 X.K) := by
  intro pins s σ H x y v u Q I rx ry h
  obtain ⟨l, xs, rfl, rfl, hT, q⟩ := h
  cases rx
  obtain ⟨tk, rfl⟩ := ry
  obtain ⟨us, r, ⟨⟨cc, dd, dt, sl⟩, ho, hc, n, hd⟩, _⟩ := I.tuple hT
  simp only at hc hd
  subst hc hd
  exact wpAny_binaryOp_repeat_ref (T := "tuple") (U := "int") (by decide) ⟨_, ho, rfl⟩ (fun s' => typeIs_int s' 1 tk) noFill_tuple_mul F.fills_int_mul F.slot_int_rmul repeat_tuple F.slot_int_index.lookup
    (call_meets F.slot_int_rmul (typeIs_int s 1 tk) F.entry_int_rmul (F.args_int_rmul_2 _ _) (int_rmul_tuple 1 tk l us.toArray n dd sl)
      ⟨ho, rfl, ⟨_, ho, rfl⟩, call_meets F.slot_tuple_mul ⟨_, ho, rfl⟩ F.entry_tuple_mul (F.args_tuple_mul_2 _ _) (tup_mul1 l us.toArray n dd sl tk) ⟨ho, .ref l, H, I, rfl, q⟩⟩)
theorem tup_mul0 (l : Addr) (items : Array Value) (n : Nat) (dd : Option Addr) (sl : Array (Option Value)) (u : Tok) (hn : items.isEmpty = false) :
    Meets (Builtin.«tuple.__mul__» ⟨[.ref l, .int 0 u], []⟩) (fun _ R s => s.heap.get? l = some { cls := .type "tuple", dict := dd, data := .seq items n, slots := sl } ∧
      R (.ok (.ret (Value.ref s.heap.objs.size))) { s with heap := s.heap.push { cls := Value.type "tuple", data := Data.seq #[] }, toks := s.toks }) :=
  .of_wp fun prog w A R s h => by
    obtain ⟨hp, gs, dr, tk, os⟩ := s
    obtain ⟨hl, h⟩ := h
    have fi := AutoSeq1.idx_int
    have c1 : (items.isEmpty || (0 : Int) == 1) = false := by rw [hn]; rfl
    have c2 : (decide ((0 : Int) ≤ 0) || items.isEmpty) = true := by rfl
    wp_walk using AutoSeq1.wpAny_loadPart' hl
    repeat (first
      | (refine wpAny_ite_false (decide_eq_false (by rw [c1]; exact Bool.false_ne_true)) ?_; wp_walk using AutoSeq1.wpAny_loadPart' hl)
      | (refine wpAny_ite_true (decide_eq_true c2) ?_; wp_walk using AutoSeq1.wpAny_loadPart' hl))
    exact ⟨_, rfl, h⟩
def rRep0 (K : PySem.W.Frag) : R2 := fun x y H Q => ∃ l xs, x = .ref l ∧ y = .int 0 ∧ SqT K H l xs ∧ xs ≠ [] ∧ ∀ p, H p = none → Q (.ref p) (upd H p (.tup []))
theorem op_rep0 : OpR X (binaryOp .Mult) (rRep0 X.K) := by
  intro pins s σ H x y v u Q I rx ry h
  obtain ⟨l, xs, rfl, rfl, hT, hne, q⟩ := h
  cases rx
  obtain ⟨tk, rfl⟩ := ry
  obtain ⟨us, r, ⟨⟨cc, dd, dt, sl⟩, ho, hc, n, hd⟩, _⟩ := I.tuple hT
  simp only at hc hd
  subst hc hd
  have hi : us.toArray.isEmpty = false := by
    have := r.length
    cases us with
    | nil => exact absurd (List.eq_nil_of_length_eq_zero this) hne
    | cons a b => rfl
  refine wpAny_binaryOp_repeat_ref (T := "tuple") (U := "int") (by decide) ⟨_, ho, rfl⟩ (fun s' => typeIs_int s' 0 tk) noFill_tuple_mul F.fills_int_mul F.slot_int_rmul repeat_tuple F.slot_int_index.lookup
    (call_meets F.slot_int_rmul (typeIs_int s 0 tk) F.entry_int_rmul (F.args_int_rmul_2 _ _) (int_rmul_tuple 0 tk l us.toArray n dd sl)
      ⟨ho, rfl, ⟨_, ho, rfl⟩, call_meets F.slot_tuple_mul ⟨_, ho, rfl⟩ F.entry_tuple_mul (F.args_tuple_mul_2 _ _) (tup_mul0 l us.toArray n dd sl tk hi) ⟨ho, ?_⟩⟩)
  refine ⟨.ref s.heap.objs.size, _, I.laid (t' := s.toks) (o := .tup []) (fun b ob q => Heap.get?_push_of_some _ q) (Nat.le_refl _) ?_, rfl, q _ (I.hok.fresh (Nat.le_refl _))⟩
  exact ⟨by decide, [], .nil, IsTup.new _ _⟩
def rRepR : R2 := fun x y H Q => ∃ l k xs, x = .ref l ∧ y = .int k ∧ Rd H l (.lst xs) ∧ -(2 ^ 63) ≤ k ∧ k < 2 ^ 63 ∧ xs.length * k.toNat ≤ sizeLine ∧ ∀ p, H p = none → Q (.ref p) (upd H p (.lst (List.replicate k.toNat xs).flatten))
theorem op_repR : OpR X (binaryOp .Mult) rRepR := by
  intro pins s σ H x y v u Q I rx ry h
  obtain ⟨l, k, xs, rfl, rfl, hR, h1, h2, hz, q⟩ := h
  cases rx
  obtain ⟨tk, rfl⟩ := ry
  obtain ⟨z, us, m, r, lu, e⟩ := rd_lst I hR
  have sz : us.toArray.size * k.toNat ≤ sizeLine := by
    rw [List.size_toArray, ← lu]
    exact hz
  have c1 : ¬ us.toArray.size * k.toNat > (2 ^ 63 - 1) / 8 := by
    have w : (sizeLine : Nat) ≤ (2 ^ 63 - 1) / 8 := by decide
    omega
  have c2 : ¬ (!Builtin.List.listFitsIndex k) = true := by
    rw [fitsIndex_both h1 h2]
    decide
  have c3 : ¬ Builtin.List.listTooLong (us.toArray.size * k.toNat) = true := by
    rw [notLongL sz]
    decide
  have fold : ∀ j : Nat, List.foldl (fun a b => a ++ b) #[] (List.replicate j us.toArray) = (List.replicate j us).flatten.toArray := fun j => by
    have w := foldl_rep us j []
    rw [List.nil_append] at w
    exact w
  have made : List.foldl (fun a b => a ++ b) #[] (List.replicate (if us.toArray.isEmpty = true then 0 else k.toNat) us.toArray) = (List.replicate k.toNat us).flatten.toArray := by
    rw [fold]
    cases us with
    | nil => simp
    | cons a t => rw [if_neg (by simp)]
  refine wpAny_binaryOp_repeat_ref (T := "list") (U := "int") (by decide) ⟨_, e, rfl⟩ (fun s' => typeIs_int s' k tk) noFill_list_mul F.fills_int_mul F.slot_int_rmul repeat_list F.slot_int_index.lookup
    (call_meets F.slot_int_rmul (typeIs_int s k tk) F.entry_int_rmul (F.args_int_rmul_2 _ _) (int___rmul___int_list k tk l us.toArray m)
      ⟨e, rfl, ⟨_, e, rfl⟩, call_meets F.slot_list_mul ⟨_, e, rfl⟩ F.entry_list_mul (F.args_list_mul_2 _ _) (AutoListH.list___mul___list_int_3 l us.toArray m k tk c2 c1 c3) ⟨e, ?_⟩⟩)
  rw [made]
  refine ⟨.ref _, _, Inv.lnew (t' := s.toks) I (r.rep k.toNat) ?_, rfl, q _ I.fresh⟩
  rw [PyProof.Rows.lm_len_rep_flat, Nat.mul_comm]
  exact hz
def rRepU (K : PySem.W.Frag) : R2 := fun x y H Q => rI CMulX (fun i j => .int (i * j)) x y H Q ∨ (rRepT K x y H Q ∨ (rRep1 K x y H Q ∨ (rRepR x y H Q ∨ rRep0 K x y H Q)))
theorem op_repU : OpR X (binaryOp .Mult) (rRepU X.K) := op_mulX.or (op_repT.or (op_rep1.or (op_repR.or op_rep0)))
theorem rps_flat {K : PySem.W.Frag} {ι : Ix} {H : Hp} {vs : List V} {ds : List D} (r : Rps K ι H vs ds) : ∀ n : Nat, Rps K ι H (List.replicate n vs).flatten (List.replicate n ds).flatten
  | 0 => .nil
  | n + 1 => by
    rw [List.replicate_succ, List.replicate_succ, List.flatten_cons, List.flatten_cons]
    exact r.append (rps_flat r n)
theorem od_rep : OpD C (rRepU C.K) repD := by
  intro E ι H st x y a b Q R rx ry h
  unfold repD at h
  split at h
  · cases rx; cases ry
    obtain ⟨c, h⟩ := okIf_cases h
    rename_i i j _
    exact .inl ⟨_, _, rfl, rfl, of_decide_eq_true (p := i.natAbs.log2 + j.natAbs.log2 < 134217000) c, h.pure R (.int _)⟩
  · rename_i xs j
    cases ry
    cases rx with
    | @tup p vs _ q r =>
      by_cases e1 : j = 1
      · rw [if_pos e1] at h
        subst e1
        exact .inr (.inr (.inl ⟨p, vs, rfl, rfl, q.t, h.pure R (.tup q r)⟩))
      · rw [if_neg e1] at h
        by_cases e0 : j = 0 ∧ xs.isEmpty = false
        · rw [if_pos e0] at h
          obtain ⟨rfl, hne⟩ := e0
          exact .inr (.inr (.inr (.inr ⟨p, vs, rfl, rfl, q.t, (fun z => by
            subst z
            cases r
            cases hne), fun l nl => new_tup R .nil h nl⟩)))
        rw [if_neg e0] at h
        obtain ⟨c, h⟩ := okIf_cases h
        obtain ⟨c1, c2⟩ := Bool.and_eq_true_iff.mp c
        have hb : 2 ≤ j ∧ j ≤ 1000 ∧ xs.length ≤ 1000 := of_decide_eq_true c2
        refine .inr (.inl ⟨p, j, vs, rfl, rfl, q.t, fun z => ?_, hb.1, hb.2.1, by rw [r.length]; exact hb.2.2, fun l nl => new_tup R (rps_flat r _) h nl⟩)
        subst z
        cases r
        cases c1
  · rename_i xs j
    cases ry
    obtain ⟨c, h⟩ := okIf_cases h
    obtain ⟨c1, c2⟩ := Bool.and_eq_true_iff.mp c
    have hb : -(2 ^ 62) ≤ j ∧ j < 2 ^ 62 := of_decide_eq_true c1
    cases rx with
    | @lst p vs _ q r =>
      exact .inr (.inr (.inr (.inl ⟨p, j, vs, rfl, rfl, q.1, by omega, by omega, by rw [r.length]; exact of_decide_eq_true c2, fun l nl => new_lst R (rps_flat r _) h nl⟩)))
  · exact h.elim
theorem w_rep (c : Cap X C E k) (ha : PE X a (rdE C E ma)) (hb : PE X b (rdE C E mb)) : PE X (.BinOp a .Mult b pos) (rdE C E (eOp repD ma mb)) := w_op op_repU (by rw [c.hK]; exact od_rep) ha hb
theorem w_lt (ha : PE X a (rdE C E ma)) (hb : PE X b (rdE C E mb)) : PE X (.Compare a [.Lt] [b] pos) (rdE C E (eOp ltD ma mb)) := w_cmp op_lt od_lt ha hb (nomark _)
theorem w_le (ha : PE X a (rdE C E ma)) (hb : PE X b (rdE C E mb)) : PE X (.Compare a [.LtE] [b] pos) (rdE C E (eOp leD ma mb)) := w_cmp op_le od_le ha hb (nomark _)
theorem w_gt (ha : PE X a (rdE C E ma)) (hb : PE X b (rdE C E mb)) : PE X (.Compare a [.Gt] [b] pos) (rdE C E (eOp gtD ma mb)) := w_cmp op_gt od_gt ha hb (nomark _)
theorem w_ge (ha : PE X a (rdE C E ma)) (hb : PE X b (rdE C E mb)) : PE X (.Compare a [.GtE] [b] pos) (rdE C E (eOp geD ma mb)) := w_cmp op_ge od_ge ha hb (nomark _)
theorem w_eq (c : Cap X C E k) (ha : PE X a (rdE C E ma)) (hb : PE X b (rdE C E mb)) : PE X (.Compare a [.Eq] [b] pos) (rdE C E (eOp (eqD false) ma mb)) := w_cmp (op_eqU c.u64) (by rw [c.hK]; exact od_eq) ha hb (nomark _)
theorem w_ne (c : Cap X C E k) (ha : PE X a (rdE C E ma)) (hb : PE X b (rdE C E mb)) : PE X (.Compare a [.NotEq] [b] pos) (rdE C E (eOp (eqD true) ma mb)) := w_cmp (op_neU c.u64) (by rw [c.hK]; exact od_eq) ha hb (nomark _)
theorem w_is (ha : PE X a (rdE C E ma)) (hb : PE X b (rdE C E mb)) : PE X (.Compare a [.Is] [b] pos) (rdE C E (eOp (isD false) ma mb)) := w_cmp op_isU od_is ha hb (nomark _)
theorem w_isn (ha : PE X a (rdE C E ma)) (hb : PE X b (rdE C E mb)) : PE X (.Compare a [.IsNot] [b] pos) (rdE C E (eOp (isD true) ma mb)) := w_cmp op_isNotU od_is ha hb (nomark _)
theorem w_in (c : Cap X C E k) (ha : PE X a (rdE C E ma)) (hb : PE X b (rdE C E mb)) (hm : behindInMarks .In b = false := by rfl) : PE X (.Compare a [.In] [b] pos) (rdE C E (eOp (inD false) ma mb)) := w_cmp (op_inU c.u1) (by rw [c.hK]; exact od_in) ha hb hm
theorem w_nin (c : Cap X C E k) (ha : PE X a (rdE C E ma)) (hb : PE X b (rdE C E mb)) (hm : behindInMarks .NotIn b = false := by rfl) : PE X (.Compare a [.NotIn] [b] pos) (rdE C E (eOp (inD true) ma mb)) := w_cmp (op_ninU c.u1) (by rw [c.hK]; exact od_in) ha hb hm
theorem t_lt (ha : PE X a (rdE C E ma)) (hb : PE X b (rdE C E mb)) : PT X (.Compare a [.Lt] [b] pos) (rdT C E (tst (eOp ltD ma mb))) := t_cmp op_lt od_lt ha hb (nomark _)
theorem t_le (ha : PE X a (rdE C E ma)) (hb : PE X b (rdE C E mb)) : PT X (.Compare a [.LtE] [b] pos) (rdT C E (tst (eOp leD ma mb))) := t_cmp op_le od_le ha hb (nomark _)
theorem t_gt (ha : PE X a (rdE C E ma)) (hb : PE X b (rdE C E mb)) : PT X (.Compare a [.Gt] [b] pos) (rdT C E (tst (eOp gtD ma mb))) := t_cmp op_gt od_gt ha hb (nomark _)
theorem t_ge (ha : PE X a (rdE C E ma)) (hb : PE X b (rdE C E mb)) : PT X (.Compare a [.GtE] [b] pos) (rdT C E (tst (eOp geD ma mb))) := t_cmp op_ge od_ge ha hb (nomark _)
theorem t_eq (c : Cap X C E k) (ha : PE X a (rdE C E ma)) (hb : PE X b (rdE C E mb)) : PT X (.Compare a [.Eq] [b] pos) (rdT C E (tst (eOp (eqD false) ma mb))) := t_cmp (op_eqU c.u64) (by rw [c.hK]; exact od_eq) ha hb (nomark _)
theorem t_ne (c : Cap X C E k) (ha : PE X a (rdE C E ma)) (hb : PE X b (rdE C E mb)) : PT X (.Compare a [.NotEq] [b] pos) (rdT C E (tst (eOp (eqD true) ma mb))) := t_cmp (op_neU c.u64) (by rw [c.hK]; exact od_eq) ha hb (nomark _)
theorem t_is (ha : PE X a (rdE C E ma)) (hb : PE X b (rdE C E mb)) : PT X (.Compare a [.Is] [b] pos) (rdT C E (tst (eOp (isD false) ma mb))) := t_cmp op_isU od_is ha hb (nomark _)
theorem t_isn (ha : PE X a (rdE C E ma)) (hb : PE X b (rdE C E mb)) : PT X (.Compare a [.IsNot] [b] pos) (rdT C E (tst (eOp (isD true) ma mb))) := t_cmp op_isNotU od_is ha hb (nomark _)
theorem t_in (c : Cap X C E k) (ha : PE X a (rdE C E ma)) (hb : PE X b (rdE C E mb)) (hm : behindInMarks .In b = false := by rfl) : PT X (.Compare a [.In] [b] pos) (rdT C E (tst (eOp (inD false) ma mb))) := t_cmp (op_inU c.u1) (by rw [c.hK]; exact od_in) ha hb hm
theorem t_nin (c : Cap X C E k) (ha : PE X a (rdE C E ma)) (hb : PE X b (rdE C E mb)) (hm : behindInMarks .NotIn b = false := by rfl) : PT X (.Compare a [.NotIn] [b] pos) (rdT C E (tst (eOp (inD true) ma mb))) := t_cmp (op_ninU c.u1) (by rw [c.hK]; exact od_in) ha hb hm
/-- chains of < and <= on ints -/
theorem w_chain {op op' : CmpOp} {r r' : R2} {f g : D → D → M D} (ho : OpR X (compareOp op) r) (ho' : OpR X (compareOp op') r') (h : OpD C r f) (h' : OpD C r' g) (ha : PE X a (rdE C E ma)) (hb : PE X b (rdE C E mb)) (hd : PE X d (rdE C E md))
    (pe : PE X (.Compare a [op, op'] [b, d] pos) (tChain r r' (rdE C E ma) (rdE C E mb) (rdE C E md))) : PE X (.Compare a [op, op'] [b, d] pos) (rdE C E (eChain f g ma mb md)) := pe.mono fun _ _ _ => rd_chain h h'
theorem w_isi2 : True := trivial
/-- a call of a built-in function or class of one argument -/
theorem w_len (c : Cap X C E k) (hm : X.mg "len" = none) (ha : PE X a (rdE C E ma)) (hg : Gl X "len" := by rfl) (h1 : starEach [a] X.env = (false, eval a X.env) :: starEach [] X.env := by rfl) : PE X (.Call (.Name "len" p) [a] [] pos) (rdE C E (eFn (fn1 lenD) (aCons ma aNil))) := w_callB cr_len (by rw [c.hK]; exact cd_len) hm boot_len (a_cons ha a_nil h1) hg (by decide) (by decide) h1 rfl
theorem w_sum (c : Cap X C E k) (hm : X.mg "sum" = none) (ha : PE X a (rdE C E ma)) (hg : Gl X "sum" := by rfl) (h1 : starEach [a] X.env = (false, eval a X.env) :: starEach [] X.env := by rfl) : PE X (.Call (.Name "sum" p) [a] [] pos) (rdE C E (eFn (fn1 sumD) (aCons ma aNil))) := w_callB (cr_sum c.calm) (by rw [c.hK]; exact cd_sum) hm boot_sum (a_cons ha a_nil h1) hg (by decide) (by decide) h1 rfl
theorem w_all (c : Cap X C E k) (hm : X.mg "all" = none) (ha : PE X a (rdE C E ma)) (hg : Gl X "all" := by rfl) (h1 : starEach [a] X.env = (false, eval a X.env) :: starEach [] X.env := by rfl) : PE X (.Call (.Name "all" p) [a] [] pos) (rdE C E (eFn (fn1 allD) (aCons ma aNil))) := w_callB (cr_all c.calm) (by rw [c.hK]; exact cd_all) hm boot_all (a_cons ha a_nil h1) hg (by decide) (by decide) h1 rfl
theorem w_any (c : Cap X C E k) (hm : X.mg "any" = none) (ha : PE X a (rdE C E ma)) (hg : Gl X "any" := by rfl) (h1 : starEach [a] X.env = (false, eval a X.env) :: starEach [] X.env := by rfl) : PE X (.Call (.Name "any" p) [a] [] pos) (rdE C E (eFn (fn1 anyD) (aCons ma aNil))) := w_callB (cr_any c.calm) (by rw [c.hK]; exact cd_any) hm boot_any (a_cons ha a_nil h1) hg (by decide) (by decide) h1 rfl
theorem w_sorted (c : Cap X C E k) (hm : X.mg "sorted" = none) (ha : PE X a (rdE C E ma)) (hg : Gl X "sorted" := by rfl) (h1 : starEach [a] X.env = (false, eval a X.env) :: starEach [] X.env := by rfl) : PE X (.Call (.Name "sorted" p) [a] [] pos) (rdE C E (eFn (fn1 sortedD) (aCons ma aNil))) := w_callB cr_sortedI (by rw [c.hK]; exact cd_sorted) hm boot_sorted (a_cons ha a_nil h1) hg (by decide) (by decide) h1 rfl
theorem w_abs (hm : X.mg "abs" = none) (ha : PE X a (rdE C E ma)) (hg : Gl X "abs" := by rfl) (h1 : starEach [a] X.env = (false, eval a X.env) :: starEach [] X.env := by rfl) : PE X (.Call (.Name "abs" p) [a] [] pos) (rdE C E (eFn (fn1 absD) (aCons ma aNil))) := w_callB cr_abs cd_abs hm boot_abs (a_cons ha a_nil h1) hg (by decide) (by decide) h1 rfl
theorem w_tuple (c : Cap X C E k) (hm : X.mg "tuple" = none) (ha : PE X a (rdE C E ma)) (hg : Gl X "tuple" := by rfl) (h1 : starEach [a] X.env = (false, eval a X.env) :: starEach [] X.env := by rfl) : PE X (.Call (.Name "tuple" p) [a] [] pos) (rdE C E (eFn (fn1 tupleD) (aCons ma aNil))) := w_callT cr_tuple (by rw [c.hK]; exact cd_tuple) hm boot_tuple (a_cons ha a_nil h1) hg (by decide) (by decide) h1 rfl
theorem w_list (c : Cap X C E k) (hm : X.mg "list" = none) (ha : PE X a (rdE C E ma)) (hg : Gl X "list" := by rfl) (h1 : starEach [a] X.env = (false, eval a X.env) :: starEach [] X.env := by rfl) : PE X (.Call (.Name "list" p) [a] [] pos) (rdE C E (eFn (fn1 listD) (aCons ma aNil))) := w_callT cr_list (by rw [c.hK]; exact cd_list) hm boot_list (a_cons ha a_nil h1) hg (by decide) (by decide) h1 rfl
theorem w_listN (c : Cap X C E k) (hm : X.mg "list" = none) (ha : PE X a (rdE C E ma)) (hg : Gl X "list" := by rfl) (h1 : starEach [a] X.env = (false, eval a X.env) :: starEach [] X.env := by rfl) : PE X (.Call (.Name "list" p) [a] [] pos) (rdE C E (eFn (fn1 listN) (aCons ma aNil))) := w_callT cr_list (by rw [c.hK]; exact cd_listN) hm boot_list (a_cons ha a_nil h1) hg (by decide) (by decide) h1 rfl
theorem w_int1 (hm : X.mg "int" = none) (ha : PE X a (rdE C E ma)) (hg : Gl X "int" := by rfl) (h1 : starEach [a] X.env = (false, eval a X.env) :: starEach [] X.env := by rfl) : PE X (.Call (.Name "int" p) [a] [] pos) (rdE C E (eFn (fn1 intD) (aCons ma aNil))) := w_callT cr_int cd_int hm boot_int (a_cons ha a_nil h1) hg (by decide) (by decide) h1 rfl
theorem w_max (c : Cap X C E k) (hm : X.mg "max" = none) (ha : PE X a (rdE C E ma)) (hb : PE X b (rdE C E mb)) (hg : Gl X "max" := by rfl) (h1 : starEach [a, b] X.env = (false, eval a X.env) :: starEach [b] X.env := by rfl) (h2 : starEach [b] X.env = (false, eval b X.env) :: starEach [] X.env := by rfl) (hpl : (backTo pos (starEach [b] X.env)).any (·.1) = false := by rfl) :
    PE X (.Call (.Name "max" p) [a, b] [] pos) (rdE C E (eFn (fn2 maxD) (aCons ma (aCons mb aNil)))) := w_callB (cr_max2 c.calm) cd_max hm boot_max (a_cons ha (a_cons hb a_nil h2) h1) hg (by decide) (by decide) h1 hpl
theorem w_min (c : Cap X C E k) (hm : X.mg "min" = none) (ha : PE X a (rdE C E ma)) (hb : PE X b (rdE C E mb)) (hg : Gl X "min" := by rfl) (h1 : starEach [a, b] X.env = (false, eval a X.env) :: starEach [b] X.env := by rfl) (h2 : starEach [b] X.env = (false, eval b X.env) :: starEach [] X.env := by rfl) (hpl : (backTo pos (starEach [b] X.env)).any (·.1) = false := by rfl) :
    PE X (.Call (.Name "min" p) [a, b] [] pos) (rdE C E (eFn (fn2 minD) (aCons ma (aCons mb aNil)))) := w_callB (cr_min2 c.calm) cd_min hm boot_min (a_cons ha (a_cons hb a_nil h2) h1) hg (by decide) (by decide) h1 hpl
end

/-! ### defs by name -/
/-- a def as it stands behind the top -/
def Df (K : PySem.W.Frag) (mg : Str → Option Value) (x : Str) (st : Stmt) (ps : List Str) (dus : List Value) : Prop := ∃ f fd, Fun K x x st f fd ∧ mg x = some (.ref f) ∧ Binds K fd ps dus
/-- what a def promises -/
def Pr (P : Program) (w : World) (K : PySem.W.Frag) (mg : Str → Option Value) (base : Heap) (C : Ctx) (x : Str) (j n : Nat) (dus : List Value) (m : List D → M D) : Prop :=
  ∃ f fd ps, FnOk P w K mg base (L2.CX P w) j f fd ps (spM C n m) ∧ mg x = some (.ref f) ∧ PySem.W.keepIn K (.ref f) = true ∧ Binds K fd ps dus
section
variable {P : Program} {w : World} {K : PySem.W.Frag} {mg : Str → Option Value} {base : Heap} {C : Ctx}
theorem pr_mk {x : Str} {st : Stmt} {ps N : List Str} {dus : List Value} {k k' n : Nat} {m : List D → M D} (b : SM) (d : Df K mg x st ps dus) (S : FnScope N ps (defScope st)) (hK : C.K = K) (hn : ps.length = n) (hm : m = runB N.length b) (hk : k' = k + 1)
    (hb : ∀ (f : Addr) (cdv : Value) (A : Around) (outer : List PySem.Env) (s : Shared) (H : Hp) (E : XK), Cap (bodyCx P w K mg base N x st f cdv A outer s H E) C E k →
      PassesOwn (model P w) (bodyCx P w K mg base N x st f cdv A outer s H E).A (bodyCx P w K mg base N x st f cdv A outer s H E).env (bodyCx P w K mg base N x st f cdv A outer s H E).xe →
      PSs (bodyCx P w K mg base N x st f cdv A outer s H E) (defBody st) (rdS C E b)) : Pr P w K mg base C x k' n dus m := by
  obtain ⟨f, fd, F, hg, hbd⟩ := d
  subst hn hm hk
  exact ⟨f, fd, ps, fn_mir C hK F S (fun cdv A outer s H E => hb f cdv A outer s H E), hg, F.kp, hbd⟩
variable {X : Cx} {E : XK} {k j n : Nat} {x : Str} {p pos : Pos} {e : Expr} {es : List Expr} {m : List D → M D} {mr : Env → M (List D)}
/-- a call with all arguments written -/
theorem w_def (c : Cap X C E k) (G : Pr X.prog X.w X.K X.mg X.base C x j n [] m) (hj : j ≤ k) (ha : PA X (e :: es) (rdA C E mr)) (hg : Gl X x := by rfl) (hdb : (x == ("__debug__" : Str)) = false := by decide) (he : starEach (e :: es) X.env = (false, eval e X.env) :: starEach es X.env := by rfl) (hpl : (backTo pos (starEach es X.env)).any (·.1) = false := by rfl) :
    PE X (.Call (.Name x p) (e :: es) [] pos) (rdE C E (eCall n m [] mr)) := by
  obtain ⟨f, fd, ps, F, hm, hk, hb⟩ := G
  exact w_call c F hj hm hk hb .nil (fun _ _ => .nil) ha hg hdb he hpl
end
end Mir

namespace Mir
open PySem PySem.Spec PyProof.Rows L2

/-- as addD, a list's sum being a new object that may change -/
def addN (a b : D) : M D := fun st => match lstOf st a, lstOf st b with
  | some xs, some ys => if szOk (xs.length + ys.length) then allocD (.lst (xs ++ ys)) st else .bad
  | _, _ => .bad
/-- the different ones, in the order of their first places -/
def difI (ns : List Int) : List Int := firstMet (fun i => ns.getD i 0) ns.length
def lenSetD (d : D) : M D := fun st => match lstOf st d with
  | some xs => match asInts xs with
    | some ns => okIf (decide (ns.length ≤ 4000)) (.int (difI ns).length) st
    | none => .bad
  | none => .bad
section
variable {X : Cx} {C : Ctx} {E : XK} {k : Nat} {a b d : Expr} {pos p p2 q : Pos} {ma mb md : Env → M D}
theorem od_addN : OpD C rCatR addN := by
  intro E ι H st x y a b Q R rx ry h
  unfold addN at h
  cases ha : lstOf st a with
  | none => simp only [ha] at h; exact h.elim
  | some xs =>
    cases hb : lstOf st b with
    | none => simp only [ha, hb] at h; exact h.elim
    | some ys =>
      simp only [ha, hb] at h
      cases c : szOk (xs.length + ys.length) with
      | false => simp only [c] at h; exact h.elim
      | true =>
        simp only [c, if_true] at h
        obtain ⟨p1, vs, e1, q1, r1⟩ := lst_of R rx ha
        obtain ⟨p2, ws, e2, q2, r2⟩ := lst_of R ry hb
        exact ⟨p1, p2, vs, ws, e1, e2, q1, q2, by rw [r1.length, r2.length]; exact of_decide_eq_true c, fun p np => new_obj R (r1.append r2) h np⟩
theorem w_addN (ha : PE X a (rdE C E ma)) (hb : PE X b (rdE C E mb)) : PE X (.BinOp a .Add b pos) (rdE C E (eOp addN ma mb)) := w_op op_catR od_addN ha hb
/-- len(set(xs)), ints -/
def tLenSet (K : PySem.W.Frag) (ta : TE) : TE := fun σ H Q => ta σ H fun x H1 => ∃ (l : Addr) (ns : List Int), x = .ref l ∧ SqL K H1 l (ns.map V.int) ∧ ns.length ≤ 4000 ∧ Q (.int (difI ns).length) H1
theorem pe_lenSet {ta : TE} (hg : Gl X "len") (hm : X.mg "len" = none) (hg2 : Gl X "set") (hm2 : X.mg "set" = none) (ha : PE X a ta) (hc : X.calm = true) (na : starEach [a] X.env = (false, eval a X.env) :: starEach [] X.env) : PE X (.Call (.Name "len" p) [.Call (.Name "set" p2) [a] [] q] [] pos) (tLenSet X.K ta) := by
  refine ⟨fun pins s σ H Q I h => ?_⟩
  refine Call_ (ld_blt I hg hm boot_len (PyProof.Rows.callWith_builtin1 (PyProof.Rows.args_cons ?_ rfl) rfl rfl))
  refine Call_ (ld_blt I hg2 hm2 boot_set (PyProof.Rows.callWith_type1 (PyProof.Rows.args_cons (thn (ha.run pins s σ H _ I h) fun v s1 ⟨x, H1, I1, r1, q1⟩ => PyProof.Rows.args_nil ?_) na) na rfl))
  obtain ⟨l, ns, rfl, hq, hl, q1⟩ := q1
  cases r1
  obtain ⟨us, r, pl, _⟩ := I1.list hq
  have el : us.toArray.size = ns.length := by rw [List.size_toArray, ← r.length, List.length_map]
  refine call_set_list (I1.ok.hd hc) pl.isList (by simpa using intsAre_of r) (by rw [el]; unfold scanBound; omega) fun h' tk hS hk => PyProof.Rows.args_nil ?_
  rw [el] at hS
  obtain ⟨o, es, ep, t, ho, hex, hd, _, _, _, hf, hn⟩ := hS
  have I2 : Inv X pins σ H1 { s1 with heap := h', toks := tk } := I1.kept fun b o e => hk b o (Heap.lt_size e) e
  have hz := firstMet_length_le (fun i => ns.getD i 0) ns.length
  exact call_len_set ho hex hd hf (by rw [hn]; show _ < _; have : (sizeLine : Nat) = 16777216 := sizeLine_eq; omega) ⟨.int (difI ns).length, H1, I2.tok _, ⟨_, by rw [hn]; rfl⟩, q1⟩
theorem w_lenSet (c : Cap X C E k) (hm : X.mg "len" = none) (hm2 : X.mg "set" = none) (ha : PE X a (rdE C E ma)) (hg : Gl X "len" := by rfl) (hg2 : Gl X "set" := by rfl) (h1 : starEach [a] X.env = (false, eval a X.env) :: starEach [] X.env := by rfl) :
    PE X (.Call (.Name "len" p) [.Call (.Name "set" p2) [a] [] q] [] pos) (rdE C E (eUn lenSetD ma)) :=
  (pe_lenSet hg hm hg2 hm2 ha c.calm h1).mono fun σ H Q ⟨env, ι, st, re, R, h⟩ => ⟨env, ι, st, re, R, (Pst.bind (rel := Rel1 C.K) h).mono fun x H1 ⟨d, ι1, st1, s1, R1, r1, q1⟩ => by
    replace q1 : Pst C (Rel1 C.K) E ι1 H1 Q (lenSetD d st1) := q1
    unfold lenSetD at q1
    cases e1 : lstOf st1 d with
    | none => simp only [e1] at q1; exact q1.elim
    | some xs =>
      cases e2 : asInts xs with
      | none => simp only [e1, e2] at q1; exact q1.elim
      | some ns =>
        simp only [e1, e2] at q1
        obtain ⟨cc, q2⟩ := okIf_cases q1
        obtain ⟨l, vs, ex, hq, rs⟩ := lst_of R1 r1 e1
        rw [asInts_of e2] at rs
        rw [rs.ints] at hq
        rw [c.hK]
        exact ⟨l, ns, ex, .inl hq, of_decide_eq_true cc, q2.pure R1 (.int _)⟩⟩
theorem w_chLeLt (ha : PE X a (rdE C E ma)) (hb : PE X b (rdE C E mb)) (hd : PE X d (rdE C E md)) (hm : lastMarks [.LtE, .Lt] [b, d] = false := by with_unfolding_all rfl) : PE X (.Compare a [.LtE, .Lt] [b, d] pos) (rdE C E (eChain leD ltD ma mb md)) := w_chain op_le op_lt od_le od_lt ha hb hd (pe_chain op_le op_lt ha hb hd hm)
theorem w_chLeLe (ha : PE X a (rdE C E ma)) (hb : PE X b (rdE C E mb)) (hd : PE X d (rdE C E md)) (hm : lastMarks [.LtE, .LtE] [b, d] = false := by with_unfolding_all rfl) : PE X (.Compare a [.LtE, .LtE] [b, d] pos) (rdE C E (eChain leD leD ma mb md)) := w_chain op_le op_le od_le od_le ha hb hd (pe_chain op_le op_le ha hb hd hm)
theorem rd_chainT {r r' : R2} {f g : D → D → M D} {ma mb mc : Env → M D} (h : OpD C r f) (h' : OpD C r' g) {σ : L2.St} {H : Hp} {Q : Bool → Hp → Prop} (q : rdT C E (tst (eChain f g ma mb mc)) σ H Q) : tTest (tChain r r' (rdE C E ma) (rdE C E mb) (rdE C E mc)) σ H Q := by
  have q' := rd_tst q
  obtain ⟨env, ι, st, re, R, q2⟩ := q'
  exact rd_chain h h' ⟨env, ι, st, re, R, q2⟩
theorem t_chLeLt (ha : PE X a (rdE C E ma)) (hb : PE X b (rdE C E mb)) (hd : PE X d (rdE C E md)) (hm : lastMarks [.LtE, .Lt] [b, d] = false := by with_unfolding_all rfl) : PT X (.Compare a [.LtE, .Lt] [b, d] pos) (rdT C E (tst (eChain leD ltD ma mb md))) := (pt_chain op_le op_lt ha hb hd hm).mono fun _ _ _ => rd_chainT od_le od_lt
theorem t_chLeLe (ha : PE X a (rdE C E ma)) (hb : PE X b (rdE C E mb)) (hd : PE X d (rdE C E md)) (hm : lastMarks [.LtE, .LtE] [b, d] = false := by with_unfolding_all rfl) : PT X (.Compare a [.LtE, .LtE] [b, d] pos) (rdT C E (tst (eChain leD leD ma mb md))) := (pt_chain op_le op_le ha hb hd hm).mono fun _ _ _ => rd_chainT od_le od_le
end
end Mir

namespace Mir
open PySem PySem.Spec PyProof.Rows L2

/-! ### from the head's facts; the end -/
section
variable {P : Program} {w : World} {K : PySem.W.Frag} {mg : Str → Option Value} {base : Heap}
theorem fun_of {x q : Str} {st : Stmt} {f : Addr} {fd : FuncData} (F : FunD K x q (defArgs st) (defBody st) (defScope st) [] [] f fd) : Fun K x q st f fd := by
  obtain ⟨oc, od, dV, kV, doc, pm, an, cdv, ct, osl, e, lk, hc, hd, _⟩ := F.ex
  rcases hd with ⟨_, z⟩ | ⟨z, _⟩
  · subst z
    exact ⟨⟨oc, od, kV, doc, pm, an, cdv, ct, osl, e, lk, hc⟩, F.kp⟩
  · exact absurd rfl z
theorem df_mk {x : Str} {st : Stmt} {ps : List Str} {f : Addr} (h : ∃ fd, FunD K x x (defArgs st) (defBody st) (defScope st) [] [] f fd) (hm : mg x = some (.ref f))
    (hb : ∀ (kV doc pm : Value) (an : Option Addr) (cdv ct : Value) (us : List Value), us.length = ps.length → bindArgs (PySem.W.fnOf x x (defArgs st) (defBody st) (defScope st) .none kV doc pm an cdv ct) ⟨us, []⟩ = pure (ps.zip us)) : Df K mg x st ps [] := by
  obtain ⟨fd, F⟩ := h
  exact ⟨f, fd, fun_of F, hm, (fun_of F).binds hb⟩
/-- a def that lets nothing out -/
theorem fn_calm {k : Nat} {f : Addr} {fd : FuncData} {ps : List Str} {sp : Sp} (F : FnOk P w K mg base (L2.CX P w) k f fd ps sp) : FnOk P w K mg base CX0 k f fd ps fun vs H Q _ => sp vs H Q E0 := by
  refine ⟨fun vs H Q E h => F.len vs H Q E0 h, fun A outer s H args us vs Q E hr he hb hv h => ?_⟩
  refine codeAny_mono (F.run A outer s H args us vs Q E0 hr he hb hv h) fun r s' q => ?_
  cases r with
  | ok fl => cases fl <;> exact q
  | error e =>
    obtain ⟨_, _, _, _, _, _, _, _, _, _, _, _, z⟩ := q
    exact z.elim
theorem law_sp {C : Ctx} {m : List D → M D} {H : Hp} {a : Addr} {ns : List Int} (hS : SqL C.K H a (ns.map V.int)) (h : ∃ st, m [.scr ns] [] = .ok (.bl true) st) : spM C 1 m [.ref a] H (fun v _ => v = .bl true) E0 := by
  obtain ⟨st, e⟩ := h
  refine ⟨[.scr ns], [], [], .cons (.scr ?_) .nil, rfl, ⟨rfl, fun _ _ _ h _ => by simp at h, fun n o b h1 _ => by simp at h1, fun _ h => by simp at h⟩, ?_⟩
  · rcases hS with z | z
    · exact .inl ⟨z, by simp⟩
    · exact .inr z
  · rw [e]
    intro ι' H' b _ _ r
    cases r
    rfl
end
end Mir

namespace Mir
open PySem PySem.Spec PyProof.Rows L2

/-! ### division by divisors of any size: outside comprehensions -/
/-- what a written part must tell so that a division may go by the long road -/
def Seer (P : Program) (K : PySem.W.Frag) : Prop := P.given.tree = none ∧ ∀ (mg : Str → Option Value) (h : Heap), Mod K mg h → h.NoSeer
def fdivL (a b : D) : M D := fun st => match a, b with
  | .int i, .int j => okIf (decide (j ≠ 0)) (.int (i.fdiv j)) st
  | _, _ => .bad
theorem od_fdivL {C : Ctx} : OpD C (rI (fun _ j => j ≠ 0) fun i j => .int (i.fdiv j)) fdivL := by
  refine od_ii (c := fun _ j => decide (j ≠ 0)) (g := fun i j => .int (i.fdiv j)) (gv := fun i j => .int (i.fdiv j)) (fun _ _ _ _ _ => .int _) (fun i j H Q c q => ⟨i, j, rfl, rfl, of_decide_eq_true c, q⟩) (fun _ _ _ => rfl) fun a b st hn => ?_
  unfold fdivL
  split
  · exact (hn _ _ rfl rfl).elim
  · rfl
section
variable {X : Cx} {C : Ctx} {E : XK} {k : Nat} {a b : Expr} {pos : Pos} {ma mb : Env → M D}
theorem op_fdivL (hr : Room k X.A) (hk : 32 ≤ k) (hS : Seer X.prog X.K) (hst : X.stack = X.env :: X.outer) (hg : X.env.scope.isGenerator = false) (hc : X.env.scope.isCoroutine = false) :
    OpR X (binaryOp .FloorDiv) (rI (fun _ j => j ≠ 0) fun i j => .int (i.fdiv j)) := by
  intro pins s σ H x y v u Q I rx ry h
  obtain ⟨i, j, rfl, rfl, hj, q⟩ := h
  obtain ⟨t, rfl⟩ := rx
  obtain ⟨t', rfl⟩ := ry
  have hN : s.heap.NoSeer := (hS.2 X.mg X.base I.mod).keeps I.bk
  have hd : X.A.depth + Builtin.pylongFrames < recursionLimit := by
    have := hr.dp
    have e : Builtin.pylongFrames = 100 := rfl
    omega
  exact floordiv_int hj ⟨.int (i.fdiv j), H, I.tok _, ⟨_, rfl⟩, q⟩ (.inr (PylongRoom.of I.nolimit hd (SeerAt.of hN hS.1 (by rw [I.ok.frames, hst]) hg hc I.ok.blt I.ok.glob)))
theorem w_fdivL (c : Cap X C E k) (hS : Seer X.prog X.K) (hk : 32 ≤ k) (ha : PE X a (rdE C E ma)) (hb : PE X b (rdE C E mb)) (hst : X.stack = X.env :: X.outer := by rfl) (hg : X.env.scope.isGenerator = false := by rfl) (hc : X.env.scope.isCoroutine = false := by rfl) :
    PE X (.BinOp a .FloorDiv b pos) (rdE C E (eOp fdivL ma mb)) := w_op (op_fdivL c.room hk hS hst hg hc) od_fdivL ha hb
end

/-! ### {} and sorted of a dict -/
def eNewDic : Env → M D := fun _ => allocD (.dic [])
def intKeys : List (Key × D) → Option (List Int)
  | [] => some []
  | (.inl i, _) :: r => (intKeys r).map (i :: ·)
  | _ => none
theorem intKeys_of : ∀ {kvs : List (Key × D)} {ks : List Int}, intKeys kvs = some ks → kvs.map (·.1) = ks.map Sum.inl
  | [], ks, h => by simp only [intKeys, Option.some.injEq] at h; subst h; rfl
  | (k, d) :: r, ks, h => by
    cases k with
    | inr z => simp only [intKeys] at h; cases h
    | inl i =>
      simp only [intKeys] at h
      cases e : intKeys r with
      | none => rw [e] at h; cases h
      | some ls =>
        rw [e] at h
        cases h
        rw [List.map_cons, List.map_cons, intKeys_of e]
def sortedU (d : D) : M D := fun st => match dicOf st d with
  | some kvs => match intKeys kvs with
    | some ks => okIf (decide (ks.length < 64)) (.lst ((sortI ks).map .int)) st
    | none => .bad
  | none => sortedD d st
section
variable {X : Cx} {C : Ctx} {E : XK} {k : Nat} {a : Expr} {pos p : Pos} {ma : Env → M D}
theorem w_newDic : PE X (.Dict [] [] pos) (rdE C E eNewDic) := pe_dnewK.mono fun σ H Q ⟨env, ι, st, re, R, q⟩ p np => by
  refine q (ι ++ [some p]) _ (.ref p) (Stp.alloc np) (R.alloc np (ob := .dic []) fun H' s e => ⟨[], e, .nil⟩) (.obj ?_)
  rw [List.getElem?_append_right (by rw [R.len]; exact Nat.le_refl _), R.len, Nat.sub_self]
  rfl
def rSortedU (K : PySem.W.Frag) : List V → Hp → VK → Prop := fun xs H Q => (∃ (a : Addr) (kvs : List (Key × V)) (ks : List Int), xs = [.ref a] ∧ Rd H a (.dK kvs) ∧ kvs.map (·.1) = ks.map Sum.inl ∧ ks.length < 64 ∧
    ∀ (ys : List Int) (p : Addr), ys.Perm ks → ys.Pairwise (· ≤ ·) → H p = none → Q (.ref p) (upd H p (.lst (ys.map V.int)))) ∨ rSortedI K xs H Q
theorem rkv_keys {K : PySem.W.Frag} {ι : Ix} {H : Hp} : ∀ {ps : List (Key × V)} {kvs : List (Key × D)}, Rkv K ι H ps kvs → ps.map (·.1) = kvs.map (·.1)
  | _, _, .nil => rfl
  | _, _, .cons h t => by rw [List.map_cons, List.map_cons, h.1, rkv_keys t]
theorem cd_sortedU : CallD C (rSortedU C.K) (fn1 sortedU) := cd1 fun E ι H st v d Q R r q => by
  unfold sortedU at q
  cases e : dicOf st d with
  | none =>
    simp only [e] at q
    obtain ⟨a, ns, ex, hq, q⟩ := ints_of R r q
    refine .inr ⟨a, ns, by rw [ex], hq, fun ns' p pm so np => ?_⟩
    rw [sortI_unique pm so]
    exact new_lst R (Rps.of_ints _) q np
  | some kvs =>
    simp only [e] at q
    cases e2 : intKeys kvs with
    | none => simp only [e2] at q; exact q.elim
    | some ks =>
      simp only [e2] at q
      obtain ⟨c, q⟩ := okIf_cases q
      obtain ⟨n, a, ps, ed, ex, e3, hp, rk⟩ := dic_of R r e
      refine .inl ⟨a, ps, ks, by rw [ex], .inl hp, by rw [rkv_keys rk, intKeys_of e2], of_decide_eq_true c, fun ys p pm so np => ?_⟩
      rw [sortI_unique pm so]
      exact new_lst R (Rps.of_ints _) q np
theorem w_sortedU (c : Cap X C E k) (hm : X.mg "sorted" = none) (ha : PE X a (rdE C E ma)) (hg : Gl X "sorted" := by rfl) (h1 : starEach [a] X.env = (false, eval a X.env) :: starEach [] X.env := by rfl) : PE X (.Call (.Name "sorted" p) [a] [] pos) (rdE C E (eFn (fn1 sortedU) (aCons ma aNil))) :=
  w_callB ((call_sortedDI c.calm).or cr_sortedI) (by rw [c.hK]; exact cd_sortedU) hm boot_sorted (a_cons ha a_nil h1) hg (by decide) (by decide) h1 rfl
end
end Mir

namespace Mir
open PySem PySem.Spec PyProof.Rows L2

/-! ### what the head tells besides: the long division's road is as the start laid it -/
def strKeysB (es : Array DictEntry) : Bool := es.toList.all fun e => match e.key with
  | .str _ _ => true
  | _ => false
theorem strKeysB_ok {es : Array DictEntry} (h : strKeysB es = true) : StrKeys es := fun e he => by
  have := List.all_eq_true.mp h e (Array.mem_toList_iff.mpr he)
  cases q : e.key with
  | str n t => exact ⟨n, t, rfl⟩
  | _ => rw [q] at this; cases this
def dictAt (K : PySem.W.Frag) (a : Addr) : Option (Array DictEntry) := match K.lookup a with
  | some ⟨_, _, .dict es _, _⟩ => some es
  | _ => none
theorem dictAt_ok {K : PySem.W.Frag} {a : Addr} {es : Array DictEntry} (h : dictAt K a = some es) : ∃ o ep, K.lookup a = some o ∧ o.data = .dict es ep := by
  unfold dictAt at h
  split at h
  · rename_i e
    cases h
    exact ⟨_, _, e, rfl⟩
  · cases h
def seerB (K : PySem.W.Frag) : Bool :=
  (match dictAt K cStatics with
    | some es => (nsFind es "sys.audit-hooks").isNone && (nsFind es "sys.dict").isNone
    | none => false) &&
  ((match dictAt K sysModules with
    | some es => strKeysB es && (nsFind es "_pylong").isNone
    | none => false) &&
  (match dictAt K mainGlobals with
    | some es => (match nsFind es "__builtins__" with
      | some (.ref bm) => (match K.lookup bm with
        | some ⟨.type c, some d, _, _⟩ => decide (c = "module") && decide (d = builtinsNs)
        | _ => false)
      | _ => false)
    | none => false))
theorem ns_find {K : PySem.W.Frag} {h : Heap} {a : Addr} {es : Array DictEntry} {m : Str → Option Value} (X : K.In h) (e : dictAt K a = some es) (n : h.Ns a m) (x : Str) : nsFind es x = m x := by
  obtain ⟨o, ep, e1, e2⟩ := dictAt_ok e
  obtain ⟨o', es', ep', e3, e4, _, r⟩ := n
  have e5 := X _ _ e1
  rw [e3] at e5
  cases e5
  rw [e4] at e2
  cases e2
  exact r x
theorem seerB_ok {P : Program} {K : PySem.W.Frag} (hP : P.given.tree = none) (h : seerB K = true) : Seer P K := by
  refine ⟨hP, fun mg hp M => ?_⟩
  unfold seerB at h
  rw [Bool.and_eq_true, Bool.and_eq_true] at h
  obtain ⟨h1, h2, h3⟩ := h
  have X := M.kin
  obtain ⟨mc, nc, _⟩ := M.nolimit
  refine ⟨⟨mc, nc, ?_⟩, ?_, M.blt, ?_⟩
  · cases e : dictAt K cStatics with
    | none => rw [e] at h1; cases h1
    | some es =>
      rw [e] at h1
      have h1' := Bool.and_eq_true_iff.mp h1
      exact ⟨by rw [← ns_find X e nc]; exact Option.isNone_iff_eq_none.mp h1'.1, by rw [← ns_find X e nc]; exact Option.isNone_iff_eq_none.mp h1'.2⟩
  · cases e : dictAt K sysModules with
    | none => rw [e] at h2; cases h2
    | some es =>
      rw [e] at h2
      have h2' := Bool.and_eq_true_iff.mp h2
      obtain ⟨o, ep, e1, e2⟩ := dictAt_ok e
      exact ⟨fun x => nsFind es x, ⟨o, es, ep, X _ _ e1, e2, strKeysB_ok h2'.1, fun _ => rfl⟩, Option.isNone_iff_eq_none.mp h2'.2⟩
  · cases e : dictAt K mainGlobals with
    | none => rw [e] at h3; cases h3
    | some es =>
      rw [e] at h3
      cases e2 : nsFind es "__builtins__" with
      | none => simp only [e2] at h3; cases h3
      | some v =>
        simp only [e2] at h3
        cases v with
        | ref bm =>
          cases e3 : K.lookup bm with
          | none => simp only [e3] at h3; cases h3
          | some o =>
            simp only [e3] at h3
            obtain ⟨oc, od, dt, sl⟩ := o
            cases oc with
            | type c =>
              cases od with
              | none => simp only at h3; cases h3
              | some d =>
                simp only at h3
                have h4 := Bool.and_eq_true_iff.mp h3
                have h5 := of_decide_eq_true h4.1
                have h6 := of_decide_eq_true h4.2
                exact ⟨mg, bm, _, M.glob, by rw [← ns_find X e M.glob]; exact e2, X _ _ e3, by rw [h5], by rw [h6]⟩
            | _ => simp only at h3; cases h3
        | _ => simp only at h3; cases h3
def asS (g : Addr → Option Obj) (n : Nat) : List Addr := He.asD g n ++ [cStatics, sysModules]
abbrev AlS : Type := He.AlD × Bool
def obsSG (n : Nat) (fa : List He.Fa) (fn : List He.DefD) (g : Addr → Option Obj) : AlS := (He.obsD fa fn (He.frG g (asS g n)), seerB (He.frG g (asS g n)))
def SaysS (fa : List He.Fa) (fn : List He.DefD) (K : PySem.W.Frag) : Prop := He.SaysD fa fn K ∧ seerB K = true
def hookS (n : Nat) (fa : List He.Fa) (fn : List He.DefD) : PySem.W.Hook where
  α := AlS
  obs := fun s => obsSG n fa fn s.heap.get?
  val := fun _ => (He.valD fn, true)
  says := fun _ h => ∃ K : PySem.W.Frag, K.In h ∧ SaysS fa fn K
  of := fun _ _ e => ⟨_, He.frG_in, congrArg (fun z : AlS => z.1) e, congrArg (fun z : AlS => z.2) e⟩
  keeps := fun _ _ _ ⟨K, hK, c⟩ k => ⟨K, PySem.W.Frag.In.keeps hK k, c⟩
theorem obsSG_eq {n : Nat} {fa : List He.Fa} {fn : List He.DefD} {g : Addr → Option Obj} {s : Shared} (h : ∀ a, g a = s.heap.get? a) : obsSG n fa fn g = (hookS n fa fn).obs s := by
  have e : g = s.heap.get? := funext h
  rw [e] <;> rfl
end Mir

namespace Mir
open PySem PySem.Spec PyProof.Rows L2

/-! ### a def's promise where no object is being shown: repr may be called -/
structure FnG (P : Program) (w : World) (K : PySem.W.Frag) (mg : Str → Option Value) (base : Heap) (CX : CXT) (k : Nat) (f : Addr) (fd : FuncData) (ps : List Str) (sp : Sp) : Prop where
  len : ∀ vs H Q E, sp vs H Q E → vs.length = ps.length
  run : ∀ A outer s H args us vs Q E, A.guards = some [] → Room k A → Env0 P w K mg base A outer s H → BindsTo s fd args (ps.zip us) → Vals vs us → sp vs H Q E → codeAny (model P w) A (.call (.ref f) args) (CR CX outer P w H s Q E) s
section
variable {P : Program} {w : World} {K : PySem.W.Frag} {mg : Str → Option Value} {base : Heap} {CX : CXT}
theorem FnG.of {k : Nat} {f : Addr} {fd : FuncData} {ps : List Str} {sp : Sp} (F : FnOk P w K mg base CX k f fd ps sp) : FnG P w K mg base CX k f fd ps sp :=
  ⟨F.len, fun A outer s H args us vs Q E _ hr => F.run A outer s H args us vs Q E hr⟩
theorem FnG.mono {j k : Nat} {f : Addr} {fd : FuncData} {ps : List Str} {sp : Sp} (F : FnG P w K mg base CX j f fd ps sp) (h : j ≤ k) : FnG P w K mg base CX k f fd ps sp :=
  ⟨F.len, fun A outer s H args us vs Q E hg hr => F.run A outer s H args us vs Q E hg (hr.mono h)⟩
/-- by its body -/
theorem fnG_of {k : Nat} {f : Addr} {name qual : Str} {params : Arguments} {body : List Stmt} {scope : Scope} {dV kV doc pm cdv ct oc : Value} {an od : Option Addr} {osl : Array (Option Value)} {N ps : List Str} {sp : Sp}
    (there : K.lookup f = some ⟨oc, od, .func (PySem.W.fnOf name qual params body scope dV kV doc pm an cdv ct), osl⟩) (code : PySem.W.codeIn K cdv qual = true) (S : FnScope N ps scope) (len : ∀ vs H Q E, sp vs H Q E → vs.length = ps.length)
    (walk : ∀ (A : Around) (outer : List PySem.Env) (s : Shared) (H : Hp) (vs : List V) (Q : VK) (E : XK), A.guards = some [] → Room k (A.deeper (envOfC qual scope s.heap.objs.size f cdv)) → sp vs H Q E →
      ∃ t, PSs (cxOf CX P w K mg base N qual scope f cdv A outer s H E) body t ∧ t { nx := fun _ H' => Q .non H', rt := Q } (start N vs) H) :
    FnG P w K mg base CX (k + 1) f (PySem.W.fnOf name qual params body scope dV kV doc pm an cdv ct) ps sp := by
  constructor
  · exact len
  intro A outer s H args us vs Q E gd room e0 binds rel want
  have hlen := len _ _ _ _ want
  have old : ∀ b o, base.get? b = some o → s.heap.get? b = some o := fun b o e => (e0.bs b o e).1
  have inK : K.In s.heap := e0.mod.kin.keeps old
  have noLimit : s.heap.NoLimit := e0.mod.nolimit.keeps old
  have kinds : ∀ y ∈ ps.zip us, scope.names.lookup y.1 = some .local ∨ (scope.names.lookup y.1 = some .cell ∧ ((cellsFrom (s.heap.objs.size + 1) scope.names []).lookup y.1).isSome = true) := by
    rintro ⟨n, v⟩ hy
    rcases S.par n (List.of_mem_zip hy).1 with q | q
    · exact .inl q
    · exact .inr ⟨q, PySem.W.cellsFrom_some _ _ _ (.inl q)⟩
  refine codeAny_call_function room.depth (inK _ _ there) rfl S.co S.gen rfl (PySem.W.codeRec_of inK code) (binds _ _ _ _ ?_)
  refine wpAny_newFunctionEnv_cells S.kind kinds fun env he s1 x => ?_
  subst he
  refine ⟨noLimit.keeps x.toInCall.keep, codeAny_func ?_⟩
  obtain ⟨t, ht, hq⟩ := walk A outer s H vs Q E gd (room.deeper _) want
  have I := inv_start (CX := CX) (E := E) S room.hd e0 hlen rel x
  refine wpAny_mono (ht.run [] s1 (start N vs) H _ I hq) ?_ fun e s' hs => hs
  intro fl s' hs
  cases fl with
  | next =>
    obtain ⟨σ', H', J, q⟩ := hs
    exact ⟨V.non, H', J.os, J.bare, J.base, J.hok, rfl, q⟩
  | ret u =>
    obtain ⟨v, σ', H', J, rv, q⟩ := hs
    exact ⟨v, H', J.os, J.bare, J.base, J.hok, rv, q⟩
  | brk => obtain ⟨_, _, _, q⟩ := hs; exact q.elim
  | cont => obtain ⟨_, _, _, q⟩ := hs; exact q.elim
theorem funG {x qual : Str} {st : Stmt} {f : Addr} {fd : FuncData} {N ps : List Str} {k : Nat} {sp : Sp} (F : Fun K x qual st f fd) (S : FnScope N ps (defScope st)) (len : ∀ vs H Q E, sp vs H Q E → vs.length = ps.length)
    (walk : ∀ (cdv : Value) (A : Around) (outer : List PySem.Env) (s : Shared) (H : Hp) (vs : List V) (Q : VK) (E : XK), A.guards = some [] → Room k (A.deeper (envOfC qual (defScope st) s.heap.objs.size f cdv)) → sp vs H Q E →
      ∃ t, PSs (cxOf (L2.CX P w) P w K mg base N qual (defScope st) f cdv A outer s H E) (defBody st) t ∧ t { nx := fun _ H' => Q .non H', rt := Q } (start N vs) H) : FnG P w K mg base (L2.CX P w) (k + 1) f fd ps sp := by
  obtain ⟨oc, od, kV, doc, pm, an, cdv, ct, osl, e, there, code⟩ := F.ex
  subst e
  exact fnG_of there code S len fun A outer s H vs Q E => walk cdv A outer s H vs Q E
end
section
variable {X : Cx} {CX : CXT} {k : Nat} {f : Addr} {fd : FuncData} {ps : List Str} {sp : Sp} {dvs : List V} {ds : List Value} {E : XK} {x : Str} {p pos : Pos} {e : Expr} {es : List Expr} {t : TA}
theorem runG {pins : List (Addr × Obj)} {σ : L2.St} {H : Hp} {s : Shared} {Q : VK} {us : List Value} {vs : List V} (F : FnG X.prog X.w X.K X.mg X.base CX k f fd ps sp) (gd : X.A.guards = some []) (room : Room k X.A) (hb : Binds X.K fd ps ds) (hd : Vals dvs ds) (hx : Passes CX X E)
    (I : Inv X pins σ H s) (rel : Vals vs us) (want : sp (vs ++ dvs) H Q E) : wpAny (model X.prog X.w) X.A (call (.ref f) us) (EP X pins σ Q) X.xe s := by
  have all := rel.append hd
  have hl : (us ++ ds).length = ps.length := by
    rw [← all.length]
    exact F.len _ _ _ _ want
  apply wpAny_call
  refine codeAny_mono (F.run X.A X.stack s H ⟨us, []⟩ _ _ Q E gd room I.env0 (hb s us I.kIn hl) all want) ?_
  rintro (e | fl) s' hq
  · exact hx pins σ H s e s' I hq
  · cases fl
    case ret u => exact I.after hq
    all_goals exact False.elim hq
theorem pe_callG (F : FnG X.prog X.w X.K X.mg X.base CX k f fd ps sp) (gd : X.A.guards = some []) (room : Room k X.A) (hg : Gl X x) (hm : X.mg x = some (.ref f)) (hk : PySem.W.keepIn X.K (.ref f) = true) (hb : Binds X.K fd ps ds) (hd : Vals dvs ds) (hx : Passes CX X E)
    (ha : PA X (e :: es) t) (hdb : (x == ("__debug__" : Str)) = false := by decide) (he : starEach (e :: es) X.env = (false, eval e X.env) :: starEach es X.env := by rfl) (hpl : (backTo pos (starEach es X.env)).any (·.1) = false := by rfl) :
    PE X (.Call (.Name x p) (e :: es) [] pos) (tCall sp dvs E t) := by
  constructor
  intro pins s σ H Q I want
  apply wpAny_Call_Name_kw
  refine ld_glob I hg hm (PySem.W.callWith_K (h₀ := X.base) I.ok.mod.kin hk ?_ he hpl) hdb
  refine thn (ha.run pos pins s σ H _ I want) ?_
  rintro us s1 ⟨vs, H1, I1, rel, q⟩
  exact ⟨I1.kIn, runG F gd room hb hd hx I1 rel q⟩
end
/-! ### the end of a law over such a promise -/
section
variable {P : Program} {w : World} {K : PySem.W.Frag} {mg mb : Str → Option Value} {CX : CXT}
theorem startG {k : Nat} {fa a : Addr} {fd : FuncData} {x : Str} {sp : Sp} {s : Shared} {vs : List Value}
    (inK : K.In s.heap) (hns : s.heap.Ns mainGlobals mg) (hb : s.heap.Ns builtinsNs mb) (hbb : ∀ x : Str, x ≠ "__name__" → mb x = bootBuiltins x) (hlim : s.heap.NoLimit) (gens : s.gens = #[])
    (script : s.heap.get? a = some { cls := .type "list", data := .seq vs.toArray }) (room : Room k callerA)
    (F : ∀ base : Heap, K.In base → base.Ns mainGlobals mg → FnG P w K mg base CX k fa fd [x] sp) (bind : ∀ (s : Shared) (u : Value), BindsTo s fd ⟨[u], []⟩ [(x, u)])
    {H : Hp} (only : Only H) (one : ∀ b, H b ≠ none → b = a) (free : H a ≠ none → K.lookup a = none) (ok : HOk P w H s.heap) (want : sp [.ref a] H (fun v _ => v = .bl true) fun _ _ _ => False)
    (calm : ∀ H e s', CX [] H s (fun _ _ _ => False) e s' → False) :
    codeAny (model P w) callerA (.call (.ref fa) ⟨[.ref a], []⟩) (fun r s' => r = .ok (.ret (.bool true)) ∧ OldK s.heap s'.heap ∧ s'.os = s.os ∧ AllBare s'.gens) s := by
  have none_of : ∀ {b : Addr}, b ≠ a → H b = none := fun {b} hne => Classical.byContradiction fun z => hne (one b z)
  have isDict : ∀ {b : Addr} {o : Obj} {es : Array DictEntry} {ep : Nat}, s.heap.get? b = some o → o.data = .dict es ep → b ≠ a := by
    rintro b o es ep e d rfl
    rw [script] at e
    cases e
    cases d
  have ns : ∀ {b : Addr} {m : Str → Option Value}, s.heap.Ns b m → (hidT s.heap H).Ns b m := by
    rintro b m ⟨o, es, ep, e, d, r⟩
    exact ⟨o, es, ep, hidT_get e (none_of (isDict e d)), d, r⟩
  have kin : K.In (hidT s.heap H) := fun b o e => hidT_get (inK b o e) (Classical.byContradiction fun z => by
    have eb := one b z
    subst eb
    rw [free z] at e
    cases e)
  obtain ⟨mc, n1, n2⟩ := hlim
  have env : Env0 P w K mg (hidT s.heap H) callerA [] s H :=
    ⟨rfl, ⟨kin, ns hns, ⟨mb, ns hb, hbb⟩, ⟨mc, ns n1, n2⟩⟩, fun b o e => of_hidT e, Nat.le_of_eq (hidT_size _ _), trivial, fun b z => absurd (show b ∈ ([] : List Addr) from z) (by simp), ok, .of_eq gens⟩
  refine codeAny_mono ((F _ kin (ns hns)).run callerA [] s H ⟨[.ref a], []⟩ [.ref a] [.ref a] _ _ rfl room env (bind s (.ref a)) (.cons rfl .nil) want) ?_
  rintro (e | fl) s' res
  · exact (calm H e s' res).elim
  cases fl
  case ret u =>
    obtain ⟨v, H', os, bare, un, ok', rv, hv⟩ := res
    have hv : v = .bl true := hv
    subst hv
    obtain rfl : u = Value.bool true := rv
    refine ⟨rfl, OldK.of_keep fun b o e => ?_, os, bare⟩
    rcases only b with z | ⟨ob, xs, z⟩
    · exact un.keep b o e z (fun m => absurd (show b ∈ ([] : List Addr) from m) (by simp)) (by simp)
    · obtain ⟨e1, _⟩ := ok b _ z
      obtain ⟨e2, _⟩ := ok' b _ (un.frzs b ob _ z)
      rw [e] at e1
      cases e1
      exact e2
  all_goals exact False.elim res
/-- as the law's end by facts, for a promise of this kind -/
theorem walkG {l : PySem.W.OpenLaw} {n k : Nat} {q : Program} {loose : List Str} {XP : (Str → Option Value) → Heap → Prop} {YP : World → Heap → Prop} {d : DefRec} {x : Str}
    (most : l.most = some n) (small : n ≤ sizeLine) (nodef : d.params.defaults = []) (room : Room k callerA)
    (F : ∀ (w : World) (mg : Str → Option Value) (fa : Addr) (h : Heap), YP w h → h.Ns mainGlobals mg → mg d.name = some (.ref fa) →
      ∃ (K : PySem.W.Frag) (fd : FuncData) (sp : Sp), K.In h ∧ (∀ (s : Shared) (u : Value), BindsTo s fd ⟨[u], []⟩ [(x, u)]) ∧
        (∀ (H : Hp) (a : Addr) (ns : List Int), ns.length ≤ n → Only H → SqL K H a (ns.map V.int) → sp [.ref a] H (fun v _ => v = .bl true) fun _ _ _ => False) ∧
        ∀ base : Heap, K.In base → base.Ns mainGlobals mg → FnG l.prog w K mg base CX k fa fd [x] sp)
    (calm : ∀ (H : Hp) (s : Shared) (e : Value) (s' : Shared), CX [] H s (fun _ _ _ => False) e s' → False) :
    PySem.W.WalkO q loose XP YP l.row.toRowW d [] (fun f vs => PySem.call f vs) := by
  apply Att.attach_call most nodef
  intro w s₀ s₁ mg mb fa o pm cd doc a vs ns G Y _ _ _ hmg hobj hin len gens
  obtain ⟨K, fd, sp, inK, bind, hsp, hF⟩ := F w mg fa _ Y G.T.g hmg
  have rel := vals_ints hin
  have lenV := hin.length
  have fits := Nat.le_trans len small
  cases hk : K.lookup a with
  | some o' =>
    have e := inK a o' hk
    rw [hobj] at e
    cases e
    refine startG (H := fun _ => none) inK G.T.g G.T.b G.T.builtins G.T.nolimit gens hobj room hF bind (fun _ => .inl rfl) (fun b z => absurd rfl z) (fun z => absurd rfl z) (fun b u z => by
      replace z : (none : Option HO) = some u := z
      cases z) (hsp _ a ns len (fun _ => .inl rfl) (.inr ⟨_, vs.toArray, _, hk, rfl, rfl, rfl, ?_, by simpa using rel⟩)) fun H e s' => calm H s₁ e s'
    rw [List.size_toArray, lenV]
    exact fits
  | none =>
    let H0 : Hp := fun b => if b = a then some (.frz { cls := .type "list", data := .seq vs.toArray } (.lst (ns.map V.int))) else none
    have at0 : H0 a = some (.frz { cls := .type "list", data := .seq vs.toArray } (.lst (ns.map V.int))) := if_pos rfl
    have off0 : ∀ {b : Addr}, b ≠ a → H0 b = none := fun h => if_neg h
    have only : Only H0 := fun b => by
      by_cases hb : b = a
      · subst hb; exact .inr ⟨_, _, at0⟩
      · exact .inl (off0 hb)
    refine startG (H := H0) inK G.T.g G.T.b G.T.builtins G.T.nolimit gens hobj room hF bind only (fun b z => Classical.byContradiction fun hb => z (off0 hb)) (fun _ => hk) ?_ (hsp _ a ns len only (.inl (.inr ⟨_, at0⟩))) fun H e s' => calm H s₁ e s'
    intro b u z
    have eb : b = a := Classical.byContradiction fun hb => by rw [off0 hb] at z; cases z
    subst eb
    rw [at0] at z
    cases z
    exact ⟨hobj, by rw [List.length_map]; exact fits, vs, _, rel, hobj⟩
end
end Mir

namespace Mir
open PySem PySem.Spec PyProof.Rows L2

/-! ### a list that will not change any more -/
def frzD (d : D) : M D := fun st => match d with
  | .obj n => match st[n]? with
    | some (.lst xs) => .ok (.lst xs) (st.set n .dead)
    | _ => .bad
  | _ => .bad
def eFrz (a : Env → M D) : Env → M D := fun env => a env >>= frzD
section
variable {X : Cx} {C : Ctx} {E : XK} {k : Nat} {e : Expr} {ma : Env → M D}
/-- the same object, as a value -/
theorem frz_rel {α β : Type} {rel : List (Option Addr) → Hp → β → α → Prop} {ι : Ix} {H : Hp} {st : Sto} {x : V} {d : D} {f : D → M α} {Q : β → Hp → Prop} (R : Rl C ι H st) (r : Rp C.K ι H x d) (q : Pst C rel E ι H Q ((frzD d >>= f) st)) :
    ∃ ι' st' d', Stp ι H ι' H ∧ Rl C ι' H st' ∧ Rp C.K ι' H x d' ∧ Pst C rel E ι' H Q (f d' st') := by
  replace q : Pst C rel E ι H Q (Res.andThen (frzD d st) f) := q
  cases r with
  | @obj a n e =>
    cases s : st[n]? with
    | none => simp only [frzD, s, Res.andThen] at q; exact q.elim
    | some o =>
      cases o with
      | lst xs =>
        simp only [frzD, s, Res.andThen] at q
        obtain ⟨ys, hy, rs⟩ := R.at' _ _ _ s e
        have hn := (List.getElem?_eq_some_iff.mp e).1
        exact ⟨ι.set n none, _, .lst xs, Stp.kill hn, R.kill hn, .lst ⟨.inl hy, kill_out R e⟩ (rs.step (Stp.kill hn)), Pst.step q (Stp.kill hn)⟩
      | dic _ => simp only [frzD, s, Res.andThen] at q; exact q.elim
      | ins _ _ => simp only [frzD, s, Res.andThen] at q; exact q.elim
      | dead => simp only [frzD, s, Res.andThen] at q; exact q.elim
  | dead e => simp only [frzD, R.dead _ e, Res.andThen] at q; exact q.elim
  | _ => exact q.elim
theorem rd_frz {σ : L2.St} {H : Hp} {Q : VK} (q : rdE C E (eFrz ma) σ H Q) : rdE C E ma σ H Q := by
  obtain ⟨env, ι, st, re, R, q⟩ := q
  refine ⟨env, ι, st, re, R, (Pst.bind (rel := Rel1 C.K) q).mono ?_⟩
  rintro x H1 ⟨d, ι1, st1, s1, R1, r1, q1⟩
  have q1' : Pst C (Rel1 C.K) E ι1 H1 Q ((frzD d >>= fun d => pure d) st1) := by
    rw [bind_def]
    cases z : frzD d st1 <;> rw [z] at q1 <;> exact q1
  obtain ⟨ι', st', d', s', R', r', q'⟩ := frz_rel R1 r1 q1'
  exact Pst.pure (rel := Rel1 C.K) q' R' r'
theorem w_frz (h : PE X e (rdE C E ma)) : PE X e (rdE C E (eFrz ma)) := h.mono fun _ _ _ => rd_frz
/-- stored in a local name -/
theorem rd_setFrz {i : Nat} {D : Ends} {σ : L2.St} {H : Hp} (q : rdS C E (sSet (.name i) (eFrz ma)) D σ H) : rdS C E (sSet (.name i) ma) D σ H := by
  obtain ⟨env, ι, st, re, R, q⟩ := q
  refine ⟨env, ι, st, re, R, ?_⟩
  show Pst C (RelFl C.K) E ι H (endQ D) (Res.andThen (ma env st) _)
  replace q : Pst C (RelFl C.K) E ι H (endQ D) (Res.andThen (Res.andThen (ma env st) frzD) fun d st => match tgD (.name i) d env with
      | some env' => .ok (.nx, env') st
      | none => .bad) := q
  cases z : ma env st with
  | bad => rw [z] at q; exact q
  | exc x s => rw [z] at q; exact q
  | ok d st1 =>
    rw [z] at q
    replace q : Pst C (RelFl C.K) E ι H (endQ D) (Res.andThen (frzD d st1) fun d st => match tgD (.name i) d env with
      | some env' => .ok (.nx, env') st
      | none => .bad) := q
    show Pst C (RelFl C.K) E ι H (endQ D) (match tgD (.name i) d env with
      | some env' => .ok (.nx, env') st1
      | none => .bad)
    simp only [tgD] at q ⊢
    cases d with
    | obj n =>
      cases s : st1[n]? with
      | none => simp only [frzD, s, Res.andThen] at q; exact q.elim
      | some o =>
        cases o with
        | lst xs =>
          simp only [frzD, s, Res.andThen] at q
          intro ι' H' b s' R' r'
          cases b with
          | nx σ' =>
            have r' : REnv C.K ι' H' σ' (env.set i (some (.obj n))) := r'
            have hn : n < ι'.length := by rw [R'.len]; exact (List.getElem?_eq_some_iff.mp s).1
            have sk := Stp.kill (ι := ι') (H := H') hn
            refine q (ι'.set n none) H' (FlV.nx σ') (s'.trans sk) (R'.kill hn) ?_
            refine ⟨by have := r'.len; rw [List.length_set] at this ⊢; exact this, fun j dj hj => ?_⟩
            by_cases e : i = j
            · subst e
              have hi := (List.getElem?_eq_some_iff.mp hj).1
              rw [List.length_set] at hi
              rw [List.getElem?_set_self hi] at hj
              cases hj
              obtain ⟨v, hv, rv⟩ := r'.at' i (.obj n) (by rw [List.getElem?_set_self hi])
              refine ⟨v, hv, ?_⟩
              cases rv with
              | @obj a _ ea =>
                obtain ⟨ys, hy, rs⟩ := R'.at' _ _ _ s ea
                exact .lst ⟨.inl hy, kill_out R' ea⟩ (rs.step sk)
              | dead ea =>
                rw [R'.dead _ ea] at s
                cases s
            · rw [List.getElem?_set_ne e] at hj
              obtain ⟨w, hw, rw'⟩ := r'.at' j dj (by rw [List.getElem?_set_ne e]; exact hj)
              exact ⟨w, hw, rw'.step sk⟩
          | _ => exact r'.elim
        | dic _ => simp only [frzD, s, Res.andThen] at q; exact q.elim
        | ins _ _ => simp only [frzD, s, Res.andThen] at q; exact q.elim
        | dead => simp only [frzD, s, Res.andThen] at q; exact q.elim
    | _ => exact q.elim
theorem s_frz {s : Stmt} {i : Nat} (h : PS X s (rdS C E (sSet (.name i) ma))) : PS X s (rdS C E (sSet (.name i) (eFrz ma))) := h.mono fun _ _ _ => rd_setFrz
end
end Mir

namespace Mir
open PySem PySem.Spec PyProof.Rows L2

theorem op_imulX {X : Cx} : OpR X (inplaceOp .Mult) (rI CMulX fun i j => .int (i * j)) := opI fun _ _ _ _ _ _ _ hc q => imul_int q hc.ok
/-! ### what is not reached -/
theorem s_bad {X : Cx} {C : Ctx} {E : XK} {s : Stmt} : PS X s (rdS C E fun _ => bad) := ⟨fun pins s σ H D I q => by
  obtain ⟨_, _, _, _, _, q⟩ := q
  exact q.elim⟩
theorem w_bad {X : Cx} {C : Ctx} {E : XK} {e : Expr} : PE X e (rdE C E fun _ => bad) := ⟨fun pins s σ H Q I q => by
  obtain ⟨_, _, _, _, _, q⟩ := q
  exact q.elim⟩
/-! ### a def that calls itself: by depths -/
theorem pr_zero {P : Program} {w : World} {K : PySem.W.Frag} {mg : Str → Option Value} {base : Heap} {C : Ctx} {x : Str} {st : Stmt} {ps : List Str} {dus : List Value} {k n : Nat} (d : Df K mg x st ps dus) (hn : ps.length = n) : Pr P w K mg base C x k n dus (fun _ => bad) := by
  obtain ⟨f, fd, F, hg, hb⟩ := d
  refine ⟨f, fd, ps, ⟨fun vs H Q E h => ?_, fun A outer s H args us vs Q E _ _ _ _ h => ?_⟩, hg, F.kp, hb⟩
  · obtain ⟨ds, ι, st, r, e, _⟩ := h
    rw [r.length, e, hn]
  · obtain ⟨ds, ι, st, r, e, _, q⟩ := h
    exact q.elim

/-! ### repr, str of lists and tuples -/
def isDisp : PyData → Bool
  | .list _ => true
  | .tuple _ => true
  | _ => false
def shP (p : PyData) : Bool := (p.showable && !p.hasDict) && ((decide (p.depth ≤ 60) && isDisp p) && (p.leavesShort 1921 && decide (p.bulk ≤ 8000)))
def shownD (d : D) : M D := fun st => match toPy (resolve st d) with
  | some p => okIf (shP p) (.str p.shown) st
  | none => .bad
def rShow (K : PySem.W.Frag) : List V → Hp → VK → Prop := fun xs H Q => ∃ a p, xs = [.ref a] ∧ Dp K H (.ref a) p ∧ shP p = true ∧ Q (.str p.shown) H
theorem shP_of {p : PyData} (h : shP p = true) : p.showable = true ∧ p.hasDict = false ∧ p.depth ≤ 60 ∧ isDisp p = true ∧ p.shown.length ≤ sizeLine := by
  unfold shP at h
  simp only [Bool.and_eq_true, Bool.not_eq_true', decide_eq_true_eq] at h
  obtain ⟨⟨h1, h2⟩, ⟨h3, h4⟩, h5, h6⟩ := h
  refine ⟨h1, h2, h3, h4, ?_⟩
  have a := PyData.shown_le_bulk 1921 (by decide) p h5
  have b : (1921 + 2) * p.bulk ≤ 1923 * 8000 := Nat.mul_le_mul_left _ h6
  have c : (sizeLine : Nat) = 16777216 := sizeLine_eq
  omega
section
variable {X : Cx} {C : Ctx} {E : XK} {k : Nat} {a : Expr} {pos p : Pos} {ma : Env → M D}
theorem cr_reprD (gd : X.A.guards = some []) (hu : X.A.units + 64 < cLine) : CallR X (.builtin "repr") (rShow X.K) := by
  intro pins s σ H xs us Q I r h
  obtain ⟨a, p, rfl, hd, hs, q⟩ := h
  obtain ⟨u, rfl, ru⟩ := Vals.one r
  obtain ⟨h1, h2, h3, h4, h5⟩ := shP_of hs
  obtain ⟨as, rd⟩ := Dp.reads I p _ u hd ru
  cases ru
  exact repr_of_reads' rd h1 (PyData.noDict_hsm h2) gd (by omega) (fun _ _ e => e) (fun h' u tk hk => ⟨.str p.shown, H, I.kept hk, ⟨_, rfl⟩, q⟩) h5
theorem cr_strD (gd : X.A.guards = some []) (hu : X.A.units + 64 < cLine) : CallR X (.type "str") (rShow X.K) := by
  intro pins s σ H xs us Q I r h
  obtain ⟨a, p, rfl, hd, hs, q⟩ := h
  obtain ⟨u, rfl, ru⟩ := Vals.one r
  obtain ⟨h1, h2, h3, h4, h5⟩ := shP_of hs
  obtain ⟨as, rd⟩ := Dp.reads I p _ u hd ru
  cases ru
  exact str_of_reads rd h1 (PyData.noDict_hsm h2) gd (by omega) (fun _ _ e => e) (fun h' u tk hk => ⟨.str p.shown, H, I.kept hk, ⟨_, rfl⟩, q⟩) h5
theorem cd_shown : CallD C (rShow C.K) (fn1 shownD) := cd1 fun E ι H st v d Q R r q => by
  unfold shownD at q
  cases e : toPy (resolve st d) with
  | none => simp only [e] at q; exact q.elim
  | some p =>
    simp only [e] at q
    obtain ⟨c, q⟩ := okIf_cases q
    have hd := dp_res R r e
    have hp := (shP_of c).2.2.2.1
    cases hd with
    | lst h1 h2 => exact ⟨_, _, rfl, .lst h1 h2, c, q.pure R (.str _)⟩
    | tup h1 h2 => exact ⟨_, _, rfl, .tup h1 h2, c, q.pure R (.str _)⟩
    | _ => cases hp
theorem w_repr (c : Cap X C E k) (gd : X.A.guards = some []) (hm : X.mg "repr" = none) (ha : PE X a (rdE C E ma)) (hg : Gl X "repr" := by rfl) (h1 : starEach [a] X.env = (false, eval a X.env) :: starEach [] X.env := by rfl) : PE X (.Call (.Name "repr" p) [a] [] pos) (rdE C E (eFn (fn1 shownD) (aCons ma aNil))) :=
  w_callB (cr_reprD gd c.u64) (by rw [c.hK]; exact cd_shown) hm (by rfl) (a_cons ha a_nil h1) hg (by decide) (by decide) h1 rfl
theorem w_str1 (c : Cap X C E k) (gd : X.A.guards = some []) (hm : X.mg "str" = none) (ha : PE X a (rdE C E ma)) (hg : Gl X "str" := by rfl) (h1 : starEach [a] X.env = (false, eval a X.env) :: starEach [] X.env := by rfl) : PE X (.Call (.Name "str" p) [a] [] pos) (rdE C E (eFn (fn1 shownD) (aCons ma aNil))) :=
  w_callT (cr_strD gd c.u64) (by rw [c.hK]; exact cd_shown) hm (by rfl) (a_cons ha a_nil h1) hg (by decide) (by decide) h1 rfl
end
/-! ### defs that show -/
section
variable {P : Program} {w : World} {K : PySem.W.Frag} {mg : Str → Option Value} {base : Heap}
def PrG (P : Program) (w : World) (K : PySem.W.Frag) (mg : Str → Option Value) (base : Heap) (C : Ctx) (x : Str) (j n : Nat) (dus : List Value) (m : List D → M D) : Prop :=
  ∃ f fd ps, FnG P w K mg base (L2.CX P w) j f fd ps (spM C n m) ∧ mg x = some (.ref f) ∧ PySem.W.keepIn K (.ref f) = true ∧ Binds K fd ps dus
theorem fn_mirG {x qual : Str} {st : Stmt} {f : Addr} {fd : FuncData} {N ps : List Str} {k : Nat} (C : Ctx) (hK : C.K = K) (F : Fun K x qual st f fd) (S : FnScope N ps (defScope st)) {b : SM}
    (hb : ∀ (cdv : Value) (A : Around) (outer : List PySem.Env) (s : Shared) (H : Hp) (E : XK), Cap (bodyCx P w K mg base N qual st f cdv A outer s H E) C E k → (bodyCx P w K mg base N qual st f cdv A outer s H E).A.guards = some [] →
      PassesOwn (model P w) (bodyCx P w K mg base N qual st f cdv A outer s H E).A (bodyCx P w K mg base N qual st f cdv A outer s H E).env (bodyCx P w K mg base N qual st f cdv A outer s H E).xe →
      PSs (bodyCx P w K mg base N qual st f cdv A outer s H E) (defBody st) (rdS C E b)) : FnG P w K mg base (L2.CX P w) (k + 1) f fd ps (spM C ps.length (runB N.length b)) := by
  refine funG F S (fun vs H Q E h => ?_) fun cdv A outer s H vs Q E gd hr h => ?_
  · obtain ⟨ds, ι, st, r, e, _⟩ := h
    rw [r.length, e]
  · have tk : Takes (bodyCx P w K mg base N qual st f cdv A outer s H E) (fun cls d _ H' => E cls d H') := takes_of rfl rfl rfl rfl
    refine ⟨_, hb cdv A outer s H E ⟨hK.symm, rfl, hr, S.nd, passes_call tk fun _ _ _ _ z => z⟩ gd (passes_of rfl), ?_⟩
    obtain ⟨ds, ι, st, r, e, R, q⟩ := h
    refine ⟨_, ι, st, renv_start r, R, (Pst.bind (rel := RelFl C.K) q).mono ?_⟩
    rintro g H1 ⟨⟨t, env1⟩, ι1, st1, s1, R1, r1, q1⟩
    cases g <;> cases t <;> first
      | exact r1.elim
      | exact q1.elim
      | exact Pst.pure (rel := Rel1 C.K) q1 R1 .non
      | exact Pst.pure (rel := Rel1 C.K) q1 R1 r1
variable {C : Ctx}
theorem pr_mkG {x : Str} {st : Stmt} {ps N : List Str} {dus : List Value} {k k' n : Nat} {m : List D → M D} (b : SM) (d : Df K mg x st ps dus) (S : FnScope N ps (defScope st)) (hK : C.K = K) (hn : ps.length = n) (hm : m = runB N.length b) (hk : k' = k + 1)
    (hb : ∀ (f : Addr) (cdv : Value) (A : Around) (outer : List PySem.Env) (s : Shared) (H : Hp) (E : XK), Cap (bodyCx P w K mg base N x st f cdv A outer s H E) C E k → (bodyCx P w K mg base N x st f cdv A outer s H E).A.guards = some [] →
      PassesOwn (model P w) (bodyCx P w K mg base N x st f cdv A outer s H E).A (bodyCx P w K mg base N x st f cdv A outer s H E).env (bodyCx P w K mg base N x st f cdv A outer s H E).xe →
      PSs (bodyCx P w K mg base N x st f cdv A outer s H E) (defBody st) (rdS C E b)) : PrG P w K mg base C x k' n dus m := by
  obtain ⟨f, fd, F, hg, hbd⟩ := d
  subst hn hm hk
  exact ⟨f, fd, ps, fn_mirG C hK F S (fun cdv A outer s H E => hb f cdv A outer s H E), hg, F.kp, hbd⟩
theorem fn_calmG {k : Nat} {f : Addr} {fd : FuncData} {ps : List Str} {sp : Sp} (F : FnG P w K mg base (L2.CX P w) k f fd ps sp) : FnG P w K mg base CX0 k f fd ps fun vs H Q _ => sp vs H Q E0 := by
  refine ⟨fun vs H Q E h => F.len vs H Q E0 h, fun A outer s H args us vs Q E gd hr he hb hv h => ?_⟩
  refine codeAny_mono (F.run A outer s H args us vs Q E0 gd hr he hb hv h) fun r s' q => ?_
  cases r with
  | ok fl => cases fl <;> exact q
  | error e =>
    obtain ⟨_, _, _, _, _, _, _, _, _, _, _, _, z⟩ := q
    exact z.elim
variable {X : Cx} {E : XK} {k j n : Nat} {x : Str} {p pos : Pos} {e : Expr} {es : List Expr} {m : List D → M D} {mr : Env → M (List D)}
theorem w_defG (c : Cap X C E k) (gd : X.A.guards = some []) (G : PrG X.prog X.w X.K X.mg X.base C x j n [] m) (hj : j ≤ k) (ha : PA X (e :: es) (rdA C E mr)) (hg : Gl X x := by rfl) (hdb : (x == ("__debug__" : Str)) = false := by decide) (he : starEach (e :: es) X.env = (false, eval e X.env) :: starEach es X.env := by rfl) (hpl : (backTo pos (starEach es X.env)).any (·.1) = false := by rfl) :
    PE X (.Call (.Name x p) (e :: es) [] pos) (rdE C E (eCall n m [] mr)) := by
  obtain ⟨f, fd, ps, F, hm, hk, hb⟩ := G
  exact (pe_callG (F.mono hj) gd c.room hg hm hk hb .nil c.pass ha hdb he hpl).mono fun σ H Q ⟨env, ι, st, re, R, q⟩ => ⟨env, ι, st, re, R, (Pst.bind (rel := RelA C.K) q).mono fun vs H1 ⟨ds, ι1, st1, s1, R1, r1, q1⟩ => by
    replace q1 : Pst C (Rel1 C.K) E ι1 H1 Q ((if (ds ++ []).length = n then m (ds ++ []) else bad : M D) st1) := q1
    rw [List.append_nil] at q1
    by_cases hl : ds.length = n
    · rw [if_pos hl] at q1
      exact ⟨ds, ι1, st1, by rw [List.append_nil]; exact r1, hl, R1, q1⟩
    · rw [if_neg hl] at q1
      exact q1.elim⟩
end

/-! ### isinstance of several types -/
section
variable {X : Cx} {C : Ctx} {E : XK} {e : Expr} {es : List Expr} {pos p q1 tp : Pos} {x1 : Nat} {ma : Env → M D} {nm : Str} {T : String} {Ts : List String}
def tTys (Ts : List String) : TA := fun _ H Q => Q (Ts.map V.ty) H
theorem ty_nil : PA X [] (tTys []) := pa_nil
theorem ty_cons (hmT : X.mg nm = none) (hv : bootBuiltins nm = some (.type T)) (h : PA X es (tTys Ts)) (hgT : Gl X nm := by rfl) (hn : nm ≠ "__name__" := by decide) (hd : (nm == ("__debug__" : Str)) = false := by decide)
    (h2 : starEach (.Name nm q1 :: es) X.env = (false, eval (.Name nm q1) X.env) :: starEach es X.env := by rfl) : PA X (.Name nm q1 :: es) (tTys (T :: Ts)) := pa_cons (pe_bltn (v := .ty T) hgT hmT hv rfl hn hd) h h2
theorem w_isiN (ha : PE X e (rdE C E ma)) (hK : X.K = C.K) (hm : X.mg "isinstance" = none) (ht : PA X es (tTys Ts)) (hz : Ts.length ≤ sizeLine := by decide) (hg : Gl X "isinstance" := by rfl)
    (h1 : starEach [e, .Tuple es x1 tp] X.env = (false, eval e X.env) :: starEach [.Tuple es x1 tp] X.env := by rfl) (h2 : starEach [.Tuple es x1 tp] X.env = (false, eval (.Tuple es x1 tp) X.env) :: starEach [] X.env := by rfl)
    (hpl : (backTo pos (starEach [.Tuple es x1 tp] X.env)).any (·.1) = false := by rfl) :
    PE X (.Call (.Name "isinstance" p) [e, .Tuple es x1 tp] [] pos) (rdE C E (eUn (isiD Ts) ma)) :=
  (pe_callB call_isiT hg hm boot_isinstance (pa_cons ha (pa_cons (pe_tup ht) pa_nil h2) h1) (by decide) (by decide) h1 hpl).mono fun σ H Q ⟨env, ι, st, re, R, q⟩ => ⟨env, ι, st, re, R, (Pst.bind (rel := Rel1 C.K) q).mono fun x H1 ⟨d, ι1, st1, s1, R1, r1, q1⟩ => by
    replace q1 : Pst C (Rel1 C.K) E ι1 H1 Q (isiD Ts d st1) := q1
    unfold isiD at q1
    cases e1 : tyD st1 d with
    | none => simp only [e1] at q1; exact q1.elim
    | some t =>
      simp only [e1] at q1
      obtain ⟨c, q2⟩ := okIf_cases q1
      refine ⟨by rw [List.length_map]; exact hz, fun a na => ?_⟩
      have sN := Stp.new1 (ι := ι1) (o := .tup (Ts.map V.ty)) na
      have RN := R1.new1 (o := .tup (Ts.map V.ty)) na
      rw [hK]
      exact ⟨x, a, Ts.map V.ty, .type t, Ts.map Value.type, Ts.any (subT t), rfl, upd_same, tys_paired Ts, tyx_of RN (r1.step sN) e1, kitAny_of c, Pst.pure (rel := Rel1 C.K) (Pst.step q2 sN) RN (.bl _)⟩⟩
end

/-! ### list.index, extend, [::-1], max, min -/
def idxD (d y : D) : M D := fun st => match lstOf st d with
  | some xs => if flatD y && xs.all flatD then (match xs.findIdx? fun x => eqV (tv x) (tv y) with
    | some j => .ok (.int (j : Nat)) st
    | none => .bad) else .bad
  | none => .bad
def extD (d y : D) : M D := fun st => match d, y with
  | .obj n, .obj m => match st[n]?, st[m]? with
    | some (.lst xs), some (.lst ys) => if szOk (xs.length + ys.length) then .ok .non (st.set n (.lst (xs ++ ys))) else .bad
    | _, _ => .bad
  | _, _ => .bad
def revD (d : D) : M D := fun st => match lstOf st d with
  | some xs => .ok (.lst xs.reverse) st
  | none => .bad
noncomputable def maxL (d : D) : M D := fun st => match lstOf st d with
  | some xs => match asInts xs with
    | some ns => @dite _ (∃ m, m ∈ ns ∧ ∀ y ∈ ns, y ≤ m) (Classical.propDecidable _) (fun h => .ok (.int (Classical.choose h)) st) fun _ => .bad
    | none => .bad
  | none => .bad
noncomputable def minL (d : D) : M D := fun st => match lstOf st d with
  | some xs => match asInts xs with
    | some ns => @dite _ (∃ m, m ∈ ns ∧ ∀ y ∈ ns, m ≤ y) (Classical.propDecidable _) (fun h => .ok (.int (Classical.choose h)) st) fun _ => .bad
    | none => .bad
  | none => .bad
theorem mtr_extend {X : Cx} : MtR X "list.extend" rExtend := mt_extend
section
variable {X : Cx} {C : Ctx} {E : XK} {k : Nat} {a : Expr} {pos p : Pos} {ma : Env → M D}
theorem md_index : MetD C (rIndex C.K) fun d ds => fn1 (idxD d) ds := met1 fun E ι H st v u d e Q R r1 r2 q => by
  replace q : Pst C (Rel1 C.K) E ι H Q (idxD d e st) := q
  unfold idxD at q
  cases e1 : lstOf st d with
  | none => simp only [e1] at q; exact q.elim
  | some xs =>
    simp only [e1] at q
    cases c : flatD e && xs.all flatD with
    | false => simp only [c, Bool.false_eq_true, if_false] at q; exact q.elim
    | true =>
      simp only [c, if_true] at q
      obtain ⟨c1, c2⟩ := Bool.and_eq_true_iff.mp c
      obtain ⟨l, vs, rfl, hq, rs⟩ := lst_of R r1 e1
      obtain ⟨ev, fv⟩ := tv_of r2 c1
      obtain ⟨evs, fvs⟩ := tvs_of rs c2
      cases e2 : xs.findIdx? fun x => eqV (tv x) (tv e) with
      | none => simp only [e2] at q; exact q.elim
      | some j =>
        simp only [e2] at q
        obtain ⟨hj, h1, h2⟩ := List.findIdx?_eq_some_iff_getElem.mp e2
        refine ⟨l, vs, u, j, tv xs[j], rfl, rfl, .inl hq, fv, fvs, ?_, ?_, fun m z hm hz => ?_, q.pure R (.int _)⟩
        · rw [evs, List.getElem?_map, List.getElem?_eq_getElem hj]; rfl
        · rw [ev]; exact h1
        · have hl : m < xs.length := by omega
          rw [evs, List.getElem?_map, List.getElem?_eq_getElem hl] at hz
          cases hz
          rw [ev]
          simpa using h2 m hm
theorem md_extend : MetD C rExtend fun d ds => fn1 (extD d) ds := met1 fun E ι H st v u d e Q R r1 r2 q => by
  replace q : Pst C (Rel1 C.K) E ι H Q (extD d e st) := q
  cases r1 with
  | @obj a n e1 =>
    cases r2 with
    | @obj b m e2 =>
      cases s : st[n]? with
      | none => simp only [extD, s] at q; exact q.elim
      | some ob =>
        cases s2 : st[m]? with
        | none => cases ob <;> (simp only [extD, s, s2] at q; exact q.elim)
        | some ob2 =>
          cases ob with
          | lst xs =>
            cases ob2 with
            | lst ys =>
              cases c : szOk (xs.length + ys.length) with
              | false => simp only [extD, s, s2, c] at q; exact q.elim
              | true =>
                simp only [extD, s, s2, c, if_true] at q
                obtain ⟨vs, hv, rv⟩ := R.at' _ _ _ s e1
                obtain ⟨ws, hw, rw'⟩ := R.at' _ _ _ s2 e2
                have hz : xs.length + ys.length ≤ sizeLine := of_decide_eq_true c
                have sP : Stp ι H ι (upd H a (.lst (vs ++ ws))) := Stp.put (List.mem_of_getElem? e1)
                exact ⟨a, b, vs, ws, rfl, rfl, hv, hw, by rw [rv.length, rw'.length]; exact hz, Pst.pure (rel := Rel1 C.K) (Pst.step q sP) (R.put (ob := .lst (xs ++ ys)) e1 fun s' => ⟨_, upd_same, (rv.append rw').step s'⟩) .non⟩
            | _ => simp only [extD, s, s2] at q; exact q.elim
          | _ => simp only [extD, s] at q; exact q.elim
    | dead e2 =>
      cases s : st[n]? with
      | none => simp only [extD, s] at q; exact q.elim
      | some ob => cases ob <;> (simp only [extD, s, R.dead _ e2] at q; exact q.elim)
    | _ => exact q.elim
  | dead e1 =>
    cases e with
    | obj m => simp only [extD, R.dead _ e1] at q; exact q.elim
    | _ => exact q.elim
  | _ => cases e <;> exact q.elim
theorem w_rev (hK : X.K = C.K) {kk : Nat} {p1 p2 p3 : Pos} (ha : PE X a (rdE C E ma)) : PE X (.Subscript a (.Slice none none (some (.UnaryOp .USub (.Constant (.int 1) kk p1) p2)) p3) pos) (rdE C E (eUn revD ma)) :=
  (pe_revL ha).mono fun σ H Q ⟨env, ι, st, re, R, q⟩ => ⟨env, ι, st, re, R, (Pst.bind (rel := Rel1 C.K) q).mono fun x H1 ⟨d, ι1, st1, s1, R1, r1, q1⟩ => by
    replace q1 : Pst C (Rel1 C.K) E ι1 H1 Q (revD d st1) := q1
    unfold revD at q1
    cases e1 : lstOf st1 d with
    | none => simp only [e1] at q1; exact q1.elim
    | some xs =>
      simp only [e1] at q1
      obtain ⟨l, vs, ex, hq, rs⟩ := lst_of R1 r1 e1
      rw [hK]
      exact ⟨l, vs, ex, .inl hq, fun p np => new_lst R1 rs.reverse q1 np⟩⟩
theorem cd_maxL : CallD C (rMax C.K) (fn1 maxL) := cd1 fun E ι H st v d Q R r q => by
  unfold maxL at q
  cases e1 : lstOf st d with
  | none => simp only [e1] at q; exact q.elim
  | some xs =>
    simp only [e1] at q
    cases e2 : asInts xs with
    | none => simp only [e2] at q; exact q.elim
    | some ns =>
      simp only [e2] at q
      obtain ⟨l, vs, rfl, hq, rs⟩ := lst_of R r e1
      rw [asInts_of e2] at rs
      rw [rs.ints] at hq
      by_cases h : ∃ m, m ∈ ns ∧ ∀ y ∈ ns, y ≤ m
      · rw [dif_pos h] at q
        have hm := Classical.choose_spec h
        refine ⟨l, ns, rfl, .inl hq, List.length_pos_of_mem hm.1, fun m h1 h2 => ?_⟩
        have : m = Classical.choose h := Int.le_antisymm (hm.2 m h1) (h2 _ hm.1)
        rw [this]
        exact q.pure R (.int _)
      · rw [dif_neg h] at q; exact q.elim
theorem cd_minL : CallD C (rMin C.K) (fn1 minL) := cd1 fun E ι H st v d Q R r q => by
  unfold minL at q
  cases e1 : lstOf st d with
  | none => simp only [e1] at q; exact q.elim
  | some xs =>
    simp only [e1] at q
    cases e2 : asInts xs with
    | none => simp only [e2] at q; exact q.elim
    | some ns =>
      simp only [e2] at q
      obtain ⟨l, vs, rfl, hq, rs⟩ := lst_of R r e1
      rw [asInts_of e2] at rs
      rw [rs.ints] at hq
      by_cases h : ∃ m, m ∈ ns ∧ ∀ y ∈ ns, m ≤ y
      · rw [dif_pos h] at q
        have hm := Classical.choose_spec h
        refine ⟨l, ns, rfl, .inl hq, List.length_pos_of_mem hm.1, fun m h1 h2 => ?_⟩
        have : m = Classical.choose h := Int.le_antisymm (h2 _ hm.1) (hm.2 m h1)
        rw [this]
        exact q.pure R (.int _)
      · rw [dif_neg h] at q; exact q.elim
theorem w_maxL (c : Cap X C E k) (hm : X.mg "max" = none) (ha : PE X a (rdE C E ma)) (hg : Gl X "max" := by rfl) (h1 : starEach [a] X.env = (false, eval a X.env) :: starEach [] X.env := by rfl) : PE X (.Call (.Name "max" p) [a] [] pos) (rdE C E (eFn (fn1 maxL) (aCons ma aNil))) := w_callB (cr_max c.calm) (by rw [c.hK]; exact cd_maxL) hm boot_max (a_cons ha a_nil h1) hg (by decide) (by decide) h1 rfl
theorem w_minL (c : Cap X C E k) (hm : X.mg "min" = none) (ha : PE X a (rdE C E ma)) (hg : Gl X "min" := by rfl) (h1 : starEach [a] X.env = (false, eval a X.env) :: starEach [] X.env := by rfl) : PE X (.Call (.Name "min" p) [a] [] pos) (rdE C E (eFn (fn1 minL) (aCons ma aNil))) := w_callB (cr_min c.calm) (by rw [c.hK]; exact cd_minL) hm boot_min (a_cons ha a_nil h1) hg (by decide) (by decide) h1 rfl
end
end Mir

namespace Mir
open PySem PySem.Spec PyProof.Rows L2

/-! ### == of texts -/
def eqS (neg : Bool) (a b : D) : M D := fun st => match a, b with
  | .str x, .str y => .ok (.bl (if neg then !decide (x = y) else decide (x = y))) st
  | _, _ => .bad
section
variable {X : Cx} {C : Ctx} {E : XK} {a b : Expr} {pos : Pos} {ma mb : Env → M D}
theorem str_dec (x y : Str) : decide (V.str x = V.str y) = decide (x = y) := by
  by_cases e : x = y
  · simp [e]
  · simp [e]
theorem od_eqS : OpD C rEq (eqS false) := by
  intro E ι H st x y a b Q R rx ry h
  cases rx with
  | str x =>
    cases ry with
    | str y => exact ⟨rfl, h.pure R (by rw [str_dec]; exact .bl _)⟩
    | _ => exact h.elim
  | _ => exact h.elim
theorem od_neS : OpD C rNe (eqS true) := by
  intro E ι H st x y a b Q R rx ry h
  cases rx with
  | str x =>
    cases ry with
    | str y => exact ⟨rfl, h.pure R (by rw [str_dec]; exact .bl _)⟩
    | _ => exact h.elim
  | _ => exact h.elim
theorem w_eqS (ha : PE X a (rdE C E ma)) (hb : PE X b (rdE C E mb)) : PE X (.Compare a [.Eq] [b] pos) (rdE C E (eOp (eqS false) ma mb)) := w_cmp op_eq od_eqS ha hb (nomark _)
theorem w_neS (ha : PE X a (rdE C E ma)) (hb : PE X b (rdE C E mb)) : PE X (.Compare a [.NotEq] [b] pos) (rdE C E (eOp (eqS true) ma mb)) := w_cmp op_ne od_neS ha hb (nomark _)
theorem t_eqS (ha : PE X a (rdE C E ma)) (hb : PE X b (rdE C E mb)) : PT X (.Compare a [.Eq] [b] pos) (rdT C E (tst (eOp (eqS false) ma mb))) := t_cmp op_eq od_eqS ha hb (nomark _)
theorem t_neS (ha : PE X a (rdE C E ma)) (hb : PE X b (rdE C E mb)) : PT X (.Compare a [.NotEq] [b] pos) (rdT C E (tst (eOp (eqS true) ma mb))) := t_cmp op_ne od_neS ha hb (nomark _)
end
end Mir

namespace Lk16
open PySem PySem.Spec PyProof.Rows L2 Mir
def topS (i : Nat) : Stmt := PySem.Challenge.pw_hushgrain_k16_whole_lattice_identities.main.body.getD i (.Pass ⟨0, 0, 0, 0⟩)
abbrev st_is_integer : Stmt := topS 4
abbrev st_bezout : Stmt := topS 5
abbrev st_gcd_of : Stmt := topS 6
abbrev st_is_form : Stmt := topS 8
abbrev st_dot : Stmt := topS 9
abbrev st_scale_form : Stmt := topS 10
abbrev st_combined : Stmt := topS 11
abbrev st_pivot_of : Stmt := topS 13
abbrev st_lowered : Stmt := topS 14
abbrev st_add_vector : Stmt := topS 15
abbrev st_hermite : Stmt := topS 16
abbrev st_is_basis : Stmt := topS 17
abbrev st_coordinates : Stmt := topS 18
abbrev st_contains : Stmt := topS 19
abbrev st_includes : Stmt := topS 20
abbrev st_join_of : Stmt := topS 21
abbrev st_tails_of : Stmt := topS 22
abbrev st_meet_of : Stmt := topS 23
abbrev st_split_by : Stmt := topS 24
abbrev st_grain_of : Stmt := topS 25
abbrev st_restrict : Stmt := topS 26
abbrev st_class_count : Stmt := topS 27
abbrev st__law_draw : Stmt := topS 29
abbrev st__law_common : Stmt := topS 30
abbrev st__law_plus : Stmt := topS 31
abbrev st__law_basis : Stmt := topS 32
abbrev st__law_form : Stmt := topS 33
abbrev st__law_lattices : Stmt := topS 34
abbrev st_law : Stmt := topS 35
/-! what the top leaves -/
structure Top (P : Program) (K : PySem.W.Frag) (mg : Str → Option Value) : Prop where
  seer : Seer P K
  z_abs : mg "abs" = none
  z_all : mg "all" = none
  z_bool : mg "bool" = none
  z_enumerate : mg "enumerate" = none
  z_int : mg "int" = none
  z_isinstance : mg "isinstance" = none
  z_len : mg "len" = none
  z_list : mg "list" = none
  z_range : mg "range" = none
  z_set : mg "set" = none
  z_sorted : mg "sorted" = none
  z_sum : mg "sum" = none
  z_tuple : mg "tuple" = none
  z_zip : mg "zip" = none
  d_is_integer : Df K mg "is_integer" st_is_integer ["thing"] []
  d_bezout : Df K mg "bezout" st_bezout ["one", "other"] []
  d_gcd_of : Df K mg "gcd_of" st_gcd_of ["numbers"] []
  d_is_form : Df K mg "is_form" st_is_form ["thing", "size"] []
  d_dot : Df K mg "dot" st_dot ["form", "vector"] []
  d_scale_form : Df K mg "scale_form" st_scale_form ["factor", "form"] []
  d_combined : Df K mg "combined" st_combined ["factor", "one", "other_factor", "other"] []
  d_pivot_of : Df K mg "pivot_of" st_pivot_of ["vector"] []
  d_lowered : Df K mg "lowered" st_lowered ["rows", "column", "vector"] []
  d_add_vector : Df K mg "add_vector" st_add_vector ["rows", "vector"] []
  d_hermite : Df K mg "hermite" st_hermite ["rows", "size"] []
  d_is_basis : Df K mg "is_basis" st_is_basis ["thing", "size"] []
  d_coordinates : Df K mg "coordinates" st_coordinates ["basis", "vector"] []
  d_contains : Df K mg "contains" st_contains ["basis", "vector"] []
  d_includes : Df K mg "includes" st_includes ["basis", "other"] []
  d_join_of : Df K mg "join_of" st_join_of ["one", "other", "size"] []
  d_tails_of : Df K mg "tails_of" st_tails_of ["rows", "width", "size"] []
  d_meet_of : Df K mg "meet_of" st_meet_of ["one", "other", "size"] []
  d_split_by : Df K mg "split_by" st_split_by ["basis", "form"] []
  d_grain_of : Df K mg "grain_of" st_grain_of ["basis", "form"] []
  d_restrict : Df K mg "restrict" st_restrict ["basis", "form", "modulus"] []
  d_class_count : Df K mg "class_count" st_class_count ["basis", "other"] []
  d__law_draw : Df K mg "_law_draw" st__law_draw ["stream", "count"] []
  d__law_common : Df K mg "_law_common" st__law_common ["one", "other"] []
  d__law_plus : Df K mg "_law_plus" st__law_plus ["factor", "one", "other"] []
  d__law_basis : Df K mg "_law_basis" st__law_basis ["stream", "size"] []
  d__law_form : Df K mg "_law_form" st__law_form ["stream", "size"] []
  d__law_lattices : Df K mg "_law_lattices" st__law_lattices ["stream", "size"] []
  d_law : Df K mg "law" st_law ["script"] []
section
variable {P : Program} {w : World} {K : PySem.W.Frag} {mg : Str → Option Value} {base : Heap} {cl : Nat → Addr}
/-! is_integer -/
noncomputable  def b_is_integer : SM := (sRet (eAnd (eUn (isiD ["int"]) (eVar 0)) (eNot (eUn (isiD ["bool"]) (eVar 0)))))
noncomputable def m_is_integer : List D → M D := runB 1 b_is_integer
theorem sc_is_integer : FnScope ["thing"] ["thing"] (defScope st_is_integer) := ⟨rfl, rfl, rfl, by decide +kernel, rfl, by decide +kernel, by decide +kernel⟩
theorem ok_is_integer (T : Top P K mg) : Pr P w K mg base ⟨K, cl⟩ "is_integer" 33 1 [] m_is_integer := by
  refine pr_mk (k := 32) b_is_integer T.d_is_integer sc_is_integer rfl rfl rfl rfl fun f cdv A outer s H E c hp => ?_
  exact (s_one (s_ret (w_and (w_isi (T := "int") (w_var 0) c.hK T.z_isinstance T.z_int boot_int) (w_one (w_not (w_isi (T := "bool") (w_var 0) c.hK T.z_isinstance T.z_bool boot_bool))))))
/-! bezout -/
noncomputable  def b_bezout : SM := (sSeq (sPar 2 3 (eTup (aCons (eVar 0) (aCons (eC (.int 1)) (aCons (eC (.int 0)) aNil)))) (eTup (aCons (eVar 1) (aCons (eC (.int 0)) (aCons (eC (.int 1)) aNil))))) (sSeq (sIf (tAndM (tst (eOp (eqD true) (eVar 0) (eC (.int 0)))) (tst (eOp (eqD false) (eOp modD (eVar 1) (eVar 0)) (eC (.int 0))))) (sSet (.name 3) (eTup (aCons (eC (.int 0)) (aCons (eC (.int 0)) (aCons (eC (.int 1)) aNil))))) sNil) (sSeq (sWhile (tst (eOp (eqD true) (eOp ixD (eVar 3) (eC (.int 0))) (eC (.int 0)))) (sSeq (sSet (.name 4) (eOp fdivL (eOp ixD (eVar 2) (eC (.int 0))) (eOp ixD (eVar 3) (eC (.int 0))))) (sPar 2 3 (eVar 3) (eFn (fn1 tupleD) (aCons (eLC (itZip (eVar 2) (eVar 3)) (.tup [(.name 6), (.name 7)]) (fun _ => pure true) (eOp subD (eVar 6) (eOp mulD (eVar 4) (eVar 7))) [6, 7]) aNil))))) (sSeq (sIf (tst (eOp ltD (eOp ixD (eVar 2) (eC (.int 0))) (eC (.int 0)))) (sSet (.name 2) (eFn (fn1 tupleD) (aCons (eLC (itSeq (eVar 2)) (.name 5) (fun _ => pure true) (eUn negD (eVar 5)) [5]) aNil))) sNil) (sRet (eVar 2))))))
noncomputable def m_bezout : List D → M D := runB 8 b_bezout
theorem sc_bezout : FnScope ["one", "other", "left", "right", "factor", "number", "a", "b"] ["one", "other"] (defScope st_bezout) := ⟨rfl, rfl, rfl, by decide +kernel, rfl, by decide +kernel, by decide +kernel⟩
theorem ok_bezout (T : Top P K mg) : Pr P w K mg base ⟨K, cl⟩ "bezout" 33 2 [] m_bezout := by
  refine pr_mk (k := 32) b_bezout T.d_bezout sc_bezout rfl rfl rfl rfl fun f cdv A outer s H E c hp => ?_
  exact (s_cons (s_par c 2 3 (w_tup (a_cons (w_var 0) (a_cons w_int (a_cons w_int a_nil)))) (w_tup (a_cons (w_var 1) (a_cons w_int (a_cons w_int a_nil))))) (s_cons (s_if (t_and (t_ne c (w_var 0) w_int) (t_and1 (t_eq c (w_mod (w_var 1) (w_var 0)) w_int))).pt (s_one (s_set 3 c.nd (w_tup (a_cons w_int (a_cons w_int (a_cons w_int a_nil)))))) s_nil) (s_cons (s_while hp (t_ne c (w_ix c.hK c.u1 (w_var 3) w_int) w_int) (s_cons (s_set 4 c.nd (w_fdivL c T.seer (by decide) (w_ix c.hK c.u1 (w_var 2) w_int) (w_ix c.hK c.u1 (w_var 3) w_int))) (s_one (s_par c 2 3 (w_var 3) (w_tuple c T.z_tuple (w_lc c (own := [("a", 6), ("b", 7)]) (i_zip (w_var 2) (w_var 3) c.hK T.z_zip) (blkOk_by (by kernel_rfl)) (fun _ _ _ _ _ => (g_tup (c.blk _ _ _ _ _).hK (c.blk _ _ _ _ _).calm (gs_cons (g_name 6 (c.blk _ _ _ _ _).nd) (gs_cons (g_name 7 (c.blk _ _ _ _ _).nd) gs_nil)))) (fun _ _ _ _ _ => ts_nil) (fun _ _ _ _ _ => (w_sub (w_var 6) (w_mul (w_var 4) (w_var 7)))))))))) (s_cons (s_if (t_lt (w_ix c.hK c.u1 (w_var 2) w_int) w_int) (s_one (s_set 2 c.nd (w_tuple c T.z_tuple (w_lc c (own := [("number", 5)]) (i_seq c.hK (w_var 2)) (blkOk_by (by kernel_rfl)) (fun _ _ _ _ _ => (g_name 5 (c.blk _ _ _ _ _).nd)) (fun _ _ _ _ _ => ts_nil) (fun _ _ _ _ _ => (w_neg (w_var 5))))))) s_nil) (s_one (s_ret (w_var 2)))))))
/-! gcd_of -/
noncomputable  def b_gcd_of : SM := (sSeq (sSet (.name 1) (eC (.int 0))) (sSeq (sFor (itSeq (eVar 0)) (.name 2) (sSet (.name 1) (eOp ixD (eCall 2 m_bezout [] (aCons (eVar 1) (aCons (eVar 2) aNil))) (eC (.int 0))))) (sRet (eVar 1))))
noncomputable def m_gcd_of : List D → M D := runB 3 b_gcd_of
theorem sc_gcd_of : FnScope ["numbers", "result", "number"] ["numbers"] (defScope st_gcd_of) := ⟨rfl, rfl, rfl, by decide +kernel, rfl, by decide +kernel, by decide +kernel⟩
theorem ok_gcd_of (T : Top P K mg) : Pr P w K mg base ⟨K, cl⟩ "gcd_of" 34 1 [] m_gcd_of := by
  have G_bezout := ok_bezout (P := P) (w := w) (base := base) (cl := cl) T
  refine pr_mk (k := 33) b_gcd_of T.d_gcd_of sc_gcd_of rfl rfl rfl rfl fun f cdv A outer s H E c hp => ?_
  exact (s_cons (s_set 1 c.nd w_int) (s_cons (s_for hp c.calm (i_seq c.hK (w_var 0)) (g_name 2 c.nd) (s_one (s_set 1 c.nd (w_ix c.hK c.u1 (w_def c G_bezout (by decide) (a_cons (w_var 1) (a_cons (w_var 2) a_nil))) w_int)))) (s_one (s_ret (w_var 1)))))
/-! is_form -/
noncomputable  def b_is_form : SM := (sRet (eAnd (eUn (isiD ["tuple"]) (eVar 0)) (eAnd (eOp (eqD false) (eFn (fn1 lenD) (aCons (eVar 0) aNil)) (eVar 1)) (eFn (fn1 allD) (aCons (eLC (itSeq (eVar 0)) (.name 2) (fun _ => pure true) (eCall 1 m_is_integer [] (aCons (eVar 2) aNil)) [2]) aNil)))))
noncomputable def m_is_form : List D → M D := runB 3 b_is_form
theorem sc_is_form : FnScope ["thing", "size", "entry"] ["thing", "size"] (defScope st_is_form) := ⟨rfl, rfl, rfl, by decide +kernel, rfl, by decide +kernel, by decide +kernel⟩
theorem ok_is_form (T : Top P K mg) : Pr P w K mg base ⟨K, cl⟩ "is_form" 34 2 [] m_is_form := by
  have G_is_integer := ok_is_integer (P := P) (w := w) (base := base) (cl := cl) T
  refine pr_mk (k := 33) b_is_form T.d_is_form sc_is_form rfl rfl rfl rfl fun f cdv A outer s H E c hp => ?_
  exact (s_one (s_ret (w_and (w_isi (T := "tuple") (w_var 0) c.hK T.z_isinstance T.z_tuple boot_tuple) (w_and (w_eq c (w_len c T.z_len (w_var 0)) (w_var 1)) (w_one (w_all c T.z_all (w_lc c (own := [("entry", 2)]) (i_seq c.hK (w_var 0)) (blkOk_by (by kernel_rfl)) (fun _ _ _ _ _ => (g_name 2 (c.blk _ _ _ _ _).nd)) (fun _ _ _ _ _ => ts_nil) (fun _ _ _ _ _ => (w_def (c.blk _ _ _ _ _) G_is_integer (by decide) (a_cons (w_var 2) a_nil))))))))))
/-! dot -/
noncomputable  def b_dot : SM := (sRet (eFn (fn1 sumD) (aCons (eLC (itZip (eVar 0) (eVar 1)) (.tup [(.name 2), (.name 3)]) (fun _ => pure true) (eOp mulD (eVar 2) (eVar 3)) [2, 3]) aNil)))
noncomputable def m_dot : List D → M D := runB 4 b_dot
theorem sc_dot : FnScope ["form", "vector", "weight", "entry"] ["form", "vector"] (defScope st_dot) := ⟨rfl, rfl, rfl, by decide +kernel, rfl, by decide +kernel, by decide +kernel⟩
theorem ok_dot (T : Top P K mg) : Pr P w K mg base ⟨K, cl⟩ "dot" 33 2 [] m_dot := by
  refine pr_mk (k := 32) b_dot T.d_dot sc_dot rfl rfl rfl rfl fun f cdv A outer s H E c hp => ?_
  exact (s_one (s_ret (w_sum c T.z_sum (w_lc c (own := [("weight", 2), ("entry", 3)]) (i_zip (w_var 0) (w_var 1) c.hK T.z_zip) (blkOk_by (by kernel_rfl)) (fun _ _ _ _ _ => (g_tup (c.blk _ _ _ _ _).hK (c.blk _ _ _ _ _).calm (gs_cons (g_name 2 (c.blk _ _ _ _ _).nd) (gs_cons (g_name 3 (c.blk _ _ _ _ _).nd) gs_nil)))) (fun _ _ _ _ _ => ts_nil) (fun _ _ _ _ _ => (w_mul (w_var 2) (w_var 3)))))))
/-! scale_form -/
noncomputable  def b_scale_form : SM := (sRet (eFn (fn1 tupleD) (aCons (eLC (itSeq (eVar 1)) (.name 2) (fun _ => pure true) (eOp mulD (eVar 0) (eVar 2)) [2]) aNil)))
noncomputable def m_scale_form : List D → M D := runB 3 b_scale_form
theorem sc_scale_form : FnScope ["factor", "form", "entry"] ["factor", "form"] (defScope st_scale_form) := ⟨rfl, rfl, rfl, by decide +kernel, rfl, by decide +kernel, by decide +kernel⟩
theorem ok_scale_form (T : Top P K mg) : Pr P w K mg base ⟨K, cl⟩ "scale_form" 33 2 [] m_scale_form := by
  refine pr_mk (k := 32) b_scale_form T.d_scale_form sc_scale_form rfl rfl rfl rfl fun f cdv A outer s H E c hp => ?_
  exact (s_one (s_ret (w_tuple c T.z_tuple (w_lc c (own := [("entry", 2)]) (i_seq c.hK (w_var 1)) (blkOk_by (by kernel_rfl)) (fun _ _ _ _ _ => (g_name 2 (c.blk _ _ _ _ _).nd)) (fun _ _ _ _ _ => ts_nil) (fun _ _ _ _ _ => (w_mul (w_var 0) (w_var 2)))))))
/-! combined -/
noncomputable  def b_combined : SM := (sRet (eFn (fn1 tupleD) (aCons (eLC (itZip (eVar 1) (eVar 3)) (.tup [(.name 4), (.name 5)]) (fun _ => pure true) (eOp addD (eOp mulD (eVar 0) (eVar 4)) (eOp mulD (eVar 2) (eVar 5))) [4, 5]) aNil)))
noncomputable def m_combined : List D → M D := runB 6 b_combined
theorem sc_combined : FnScope ["factor", "one", "other_factor", "other", "a", "b"] ["factor", "one", "other_factor", "other"] (defScope st_combined) := ⟨rfl, rfl, rfl, by decide +kernel, rfl, by decide +kernel, by decide +kernel⟩
theorem ok_combined (T : Top P K mg) : Pr P w K mg base ⟨K, cl⟩ "combined" 33 4 [] m_combined := by
  refine pr_mk (k := 32) b_combined T.d_combined sc_combined rfl rfl rfl rfl fun f cdv A outer s H E c hp => ?_
  exact (s_one (s_ret (w_tuple c T.z_tuple (w_lc c (own := [("a", 4), ("b", 5)]) (i_zip (w_var 1) (w_var 3) c.hK T.z_zip) (blkOk_by (by kernel_rfl)) (fun _ _ _ _ _ => (g_tup (c.blk _ _ _ _ _).hK (c.blk _ _ _ _ _).calm (gs_cons (g_name 4 (c.blk _ _ _ _ _).nd) (gs_cons (g_name 5 (c.blk _ _ _ _ _).nd) gs_nil)))) (fun _ _ _ _ _ => ts_nil) (fun _ _ _ _ _ => (w_add (c.blk _ _ _ _ _) (w_mul (w_var 0) (w_var 4)) (w_mul (w_var 2) (w_var 5))))))))
/-! pivot_of -/
noncomputable  def b_pivot_of : SM := (sSeq (sFor (itEnum (eVar 0)) (.tup [(.name 1), (.name 2)]) (sIf (tst (eOp (eqD true) (eVar 2) (eC (.int 0)))) (sRet (eVar 1)) sNil)) (sRet (eC .non)))
noncomputable def m_pivot_of : List D → M D := runB 3 b_pivot_of
theorem sc_pivot_of : FnScope ["vector", "column", "entry"] ["vector"] (defScope st_pivot_of) := ⟨rfl, rfl, rfl, by decide +kernel, rfl, by decide +kernel, by decide +kernel⟩
theorem ok_pivot_of (T : Top P K mg) : Pr P w K mg base ⟨K, cl⟩ "pivot_of" 33 1 [] m_pivot_of := by
  refine pr_mk (k := 32) b_pivot_of T.d_pivot_of sc_pivot_of rfl rfl rfl rfl fun f cdv A outer s H E c hp => ?_
  exact (s_cons (s_for hp c.calm (i_enum (w_var 0) c.hK T.z_enumerate) (g_tup c.hK c.calm (gs_cons (g_name 1 c.nd) (gs_cons (g_name 2 c.nd) gs_nil))) (s_one (s_if (t_ne c (w_var 2) w_int) (s_one (s_ret (w_var 1))) s_nil))) (s_one (s_ret w_non)))
/-! lowered -/
noncomputable  def b_lowered : SM := (sSeq (sFor (itSeq (eFn (fn1 sortedU) (aCons (eVar 0) aNil))) (.name 3) (sIf (tst (eOp gtD (eVar 3) (eVar 1))) (sSeq (sSet (.name 4) (eOp ixD (eVar 0) (eVar 3))) (sSet (.name 2) (eCall 4 m_combined [] (aCons (eC (.int 1)) (aCons (eVar 2) (aCons (eUn negD (eOp fdivL (eOp ixD (eVar 2) (eVar 3)) (eOp ixD (eVar 4) (eVar 3)))) (aCons (eVar 4) aNil))))))) sNil)) (sRet (eVar 2)))
noncomputable def m_lowered : List D → M D := runB 5 b_lowered
theorem sc_lowered : FnScope ["rows", "column", "vector", "pivot", "row"] ["rows", "column", "vector"] (defScope st_lowered) := ⟨rfl, rfl, rfl, by decide +kernel, rfl, by decide +kernel, by decide +kernel⟩
theorem ok_lowered (T : Top P K mg) : Pr P w K mg base ⟨K, cl⟩ "lowered" 34 3 [] m_lowered := by
  have G_combined := ok_combined (P := P) (w := w) (base := base) (cl := cl) T
  refine pr_mk (k := 33) b_lowered T.d_lowered sc_lowered rfl rfl rfl rfl fun f cdv A outer s H E c hp => ?_
  exact (s_cons (s_for hp c.calm (i_seq c.hK (w_sortedU c T.z_sorted (w_var 0))) (g_name 3 c.nd) (s_one (s_if (t_gt (w_var 3) (w_var 1)) (s_cons (s_set 4 c.nd (w_ix c.hK c.u1 (w_var 0) (w_var 3))) (s_one (s_set 2 c.nd (w_def c G_combined (by decide) (a_cons w_int (a_cons (w_var 2) (a_cons (w_neg (w_fdivL c T.seer (by decide) (w_ix c.hK c.u1 (w_var 2) (w_var 3)) (w_ix c.hK c.u1 (w_var 4) (w_var 3)))) (a_cons (w_var 4) a_nil)))))))) s_nil))) (s_one (s_ret (w_var 2))))
/-! add_vector -/
noncomputable  def b_add_vector : SM := (sFor (itR1 (eFn (fn1 lenD) (aCons (eVar 1) aNil))) (.name 2) (sSeq (sSet (.name 3) (eOp ixD (eVar 1) (eVar 2))) (sSeq (sIf (tAndM (tst (eOp (eqD true) (eVar 3) (eC (.int 0)))) (tst (eOp (inD true) (eVar 2) (eVar 0)))) (sSeq (sSetI (eIf (tst (eOp ltD (eVar 3) (eC (.int 0)))) (eCall 2 m_scale_form [] (aCons (eUn negD (eC (.int 1))) (aCons (eVar 1) aNil))) (eVar 1)) (eVar 0) (eVar 2)) sRetN) sNil) (sIf (tst (eOp (eqD true) (eVar 3) (eC (.int 0)))) (sSeq (sSet (.name 4) (eOp ixD (eVar 0) (eVar 2))) (sSeq (sSet (.tup [(.name 5), (.name 6), (.name 7)]) (eCall 2 m_bezout [] (aCons (eOp ixD (eVar 4) (eVar 2)) (aCons (eVar 3) aNil)))) (sSeq (sSet (.name 8) (eCall 4 m_combined [] (aCons (eVar 6) (aCons (eVar 4) (aCons (eVar 7) (aCons (eVar 1) aNil)))))) (sSeq (sSet (.name 9) (eCall 4 m_combined [] (aCons (eOp fdivL (eOp ixD (eVar 4) (eVar 2)) (eVar 5)) (aCons (eVar 1) (aCons (eUn negD (eOp fdivL (eVar 3) (eVar 5))) (aCons (eVar 4) aNil)))))) (sSeq (sSetI (eCall 3 m_lowered [] (aCons (eVar 0) (aCons (eVar 2) (aCons (eVar 8) aNil)))) (eVar 0) (eVar 2)) (sSet (.name 1) (eCall 3 m_lowered [] (aCons (eVar 0) (aCons (eVar 2) (aCons (eVar 9) aNil)))))))))) sNil))))
noncomputable def m_add_vector : List D → M D := runB 10 b_add_vector
theorem sc_add_vector : FnScope ["rows", "vector", "column", "entry", "row", "common", "one", "other", "better", "rest"] ["rows", "vector"] (defScope st_add_vector) := ⟨rfl, rfl, rfl, by decide +kernel, rfl, by decide +kernel, by decide +kernel⟩
theorem ok_add_vector (T : Top P K mg) : Pr P w K mg base ⟨K, cl⟩ "add_vector" 35 2 [] m_add_vector := by
  have G_scale_form := ok_scale_form (P := P) (w := w) (base := base) (cl := cl) T
  have G_bezout := ok_bezout (P := P) (w := w) (base := base) (cl := cl) T
  have G_combined := ok_combined (P := P) (w := w) (base := base) (cl := cl) T
  have G_lowered := ok_lowered (P := P) (w := w) (base := base) (cl := cl) T
  refine pr_mk (k := 34) b_add_vector T.d_add_vector sc_add_vector rfl rfl rfl rfl fun f cdv A outer s H E c hp => ?_
  exact (s_one (s_for hp c.calm (i_rng1 (w_len c T.z_len (w_var 1)) T.z_range) (g_name 2 c.nd) (s_cons (s_set 3 c.nd (w_ix c.hK c.u1 (w_var 1) (w_var 2))) (s_cons (s_if (t_and (t_ne c (w_var 3) w_int) (t_and1 (t_nin c (w_var 2) (w_var 0)))).pt (s_cons (s_setI c (w_if (t_lt (w_var 3) w_int) (w_def c G_scale_form (by decide) (a_cons (w_neg w_int) (a_cons (w_var 1) a_nil))) (w_var 1)) (w_var 0) (w_var 2)) (s_one s_retN)) s_nil) (s_one (s_if (t_ne c (w_var 3) w_int) (s_cons (s_set 4 c.nd (w_ix c.hK c.u1 (w_var 0) (w_var 2))) (s_cons (s_asg (w_def c G_bezout (by decide) (a_cons (w_ix c.hK c.u1 (w_var 4) (w_var 2)) (a_cons (w_var 3) a_nil))) (g_tup c.hK c.calm (gs_cons (g_name 5 c.nd) (gs_cons (g_name 6 c.nd) (gs_cons (g_name 7 c.nd) gs_nil))))) (s_cons (s_set 8 c.nd (w_def c G_combined (by decide) (a_cons (w_var 6) (a_cons (w_var 4) (a_cons (w_var 7) (a_cons (w_var 1) a_nil)))))) (s_cons (s_set 9 c.nd (w_def c G_combined (by decide) (a_cons (w_fdivL c T.seer (by decide) (w_ix c.hK c.u1 (w_var 4) (w_var 2)) (w_var 5)) (a_cons (w_var 1) (a_cons (w_neg (w_fdivL c T.seer (by decide) (w_var 3) (w_var 5))) (a_cons (w_var 4) a_nil)))))) (s_cons (s_setI c (w_def c G_lowered (by decide) (a_cons (w_var 0) (a_cons (w_var 2) (a_cons (w_var 8) a_nil)))) (w_var 0) (w_var 2)) (s_one (s_set 1 c.nd (w_def c G_lowered (by decide) (a_cons (w_var 0) (a_cons (w_var 2) (a_cons (w_var 9) a_nil))))))))))) s_nil))))))
/-! hermite -/
noncomputable  def b_hermite : SM := (sSeq (sSet (.name 2) eNewDic) (sSeq (sFor (itSeq (eVar 0)) (.name 3) (sExpr (eCall 2 m_add_vector [] (aCons (eVar 2) (aCons (eFn (fn1 tupleD) (aCons (eVar 3) aNil)) aNil))))) (sRet (eFn (fn1 tupleD) (aCons (eLC (itSeq (eFn (fn1 sortedU) (aCons (eVar 2) aNil))) (.name 4) (fun _ => pure true) (eCall 3 m_lowered [] (aCons (eVar 2) (aCons (eVar 4) (aCons (eOp ixD (eVar 2) (eVar 4)) aNil)))) [4]) aNil)))))
noncomputable def m_hermite : List D → M D := runB 5 b_hermite
theorem sc_hermite : FnScope ["rows", "size", "echelon", "row", "column"] ["rows", "size"] (defScope st_hermite) := ⟨rfl, rfl, rfl, by decide +kernel, rfl, by decide +kernel, by decide +kernel⟩
theorem ok_hermite (T : Top P K mg) : Pr P w K mg base ⟨K, cl⟩ "hermite" 36 2 [] m_hermite := by
  have G_add_vector := ok_add_vector (P := P) (w := w) (base := base) (cl := cl) T
  have G_lowered := ok_lowered (P := P) (w := w) (base := base) (cl := cl) T
  refine pr_mk (k := 35) b_hermite T.d_hermite sc_hermite rfl rfl rfl rfl fun f cdv A outer s H E c hp => ?_
  exact (s_cons (s_set 2 c.nd w_newDic) (s_cons (s_for hp c.calm (i_seq c.hK (w_var 0)) (g_name 3 c.nd) (s_one (s_expr (w_def c G_add_vector (by decide) (a_cons (w_var 2) (a_cons (w_tuple c T.z_tuple (w_var 3)) a_nil)))))) (s_one (s_ret (w_tuple c T.z_tuple (w_lc c (own := [("column", 4)]) (i_seq c.hK (w_sortedU c T.z_sorted (w_var 2))) (blkOk_by (by kernel_rfl)) (fun _ _ _ _ _ => (g_name 4 (c.blk _ _ _ _ _).nd)) (fun _ _ _ _ _ => ts_nil) (fun _ _ _ _ _ => (w_def (c.blk _ _ _ _ _) G_lowered (by decide) (a_cons (w_var 2) (a_cons (w_var 4) (a_cons (w_ix (c.blk _ _ _ _ _).hK (c.blk _ _ _ _ _).u1 (w_var 2) (w_var 4)) a_nil)))))))))))
/-! is_basis -/
noncomputable  def b_is_basis : SM := (sSeq (sIf (tOrM (tNotM (tst (eUn (isiD ["tuple"]) (eVar 0)))) (tNotM (tst (eFn (fn1 allD) (aCons (eLC (itSeq (eVar 0)) (.name 6) (fun _ => pure true) (eCall 2 m_is_form [] (aCons (eVar 6) (aCons (eVar 1) aNil))) [6]) aNil))))) (sRet (eC (.bl false))) sNil) (sSeq (sSet (.name 2) (eLC (itSeq (eVar 0)) (.name 6) (fun _ => pure true) (eCall 1 m_pivot_of [] (aCons (eVar 6) aNil)) [6])) (sSeq (sIf (tOrM (tst (eOp (inD false) (eC .non) (eVar 2))) (tOrM (tst (eOp (eqD true) (eVar 2) (eFn (fn1 sortedU) (aCons (eVar 2) aNil)))) (tst (eOp (eqD true) (eUn lenSetD (eVar 2)) (eFn (fn1 lenD) (aCons (eVar 2) aNil)))))) (sRet (eC (.bl false))) sNil) (sSeq (sFor (itEnum (eVar 2)) (.tup [(.name 3), (.name 4)]) (sSeq (sSet (.name 5) (eOp ixD (eOp ixD (eVar 0) (eVar 3)) (eVar 4))) (sIf (tOrM (tst (eOp ltD (eVar 5) (eC (.int 0)))) (tNotM (tst (eFn (fn1 allD) (aCons (eLC (itSeq (eSlice (eVar 0) oNone (oSome (eVar 3)))) (.name 6) (fun _ => pure true) (eChain leD ltD (eC (.int 0)) (eOp ixD (eVar 6) (eVar 4)) (eVar 5)) [6]) aNil))))) (sRet (eC (.bl false))) sNil))) (sRet (eC (.bl true)))))))
noncomputable def m_is_basis : List D → M D := runB 7 b_is_basis
theorem sc_is_basis : FnScope ["thing", "size", "pivots", "low", "column", "pivot", "row"] ["thing", "size"] (defScope st_is_basis) := ⟨rfl, rfl, rfl, by decide +kernel, rfl, by decide +kernel, by decide +kernel⟩
theorem ok_is_basis (T : Top P K mg) : Pr P w K mg base ⟨K, cl⟩ "is_basis" 35 2 [] m_is_basis := by
  have G_is_form := ok_is_form (P := P) (w := w) (base := base) (cl := cl) T
  have G_pivot_of := ok_pivot_of (P := P) (w := w) (base := base) (cl := cl) T
  refine pr_mk (k := 34) b_is_basis T.d_is_basis sc_is_basis rfl rfl rfl rfl fun f cdv A outer s H E c hp => ?_
  exact (s_cons (s_if (t_or (t_not (t_val (w_isi (T := "tuple") (w_var 0) c.hK T.z_isinstance T.z_tuple boot_tuple))) (t_or1 (t_not (t_val (w_all c T.z_all (w_lc c (own := [("row", 6)]) (i_seq c.hK (w_var 0)) (blkOk_by (by kernel_rfl)) (fun _ _ _ _ _ => (g_name 6 (c.blk _ _ _ _ _).nd)) (fun _ _ _ _ _ => ts_nil) (fun _ _ _ _ _ => (w_def (c.blk _ _ _ _ _) G_is_form (by decide) (a_cons (w_var 6) (a_cons (w_var 1) a_nil)))))))))).pt (s_one (s_ret w_bl)) s_nil) (s_cons (s_setLC c 2 (own := [("row", 6)]) (i_seq c.hK (w_var 0)) (blkOk_by (by kernel_rfl)) (fun _ _ _ _ _ => (g_name 6 (c.blk _ _ _ _ _).nd)) (fun _ _ _ _ _ => ts_nil) (fun _ _ _ _ _ => (w_def (c.blk _ _ _ _ _) G_pivot_of (by decide) (a_cons (w_var 6) a_nil))) (sw_true rfl rfl rfl (by decide +kernel))) (s_cons (s_if (t_or (t_in c w_non (w_var 2)) (t_or (t_ne c (w_var 2) (w_sortedU c T.z_sorted (w_var 2))) (t_or1 (t_ne c (w_lenSet c T.z_len T.z_set (w_var 2)) (w_len c T.z_len (w_var 2)))))).pt (s_one (s_ret w_bl)) s_nil) (s_cons (s_for hp c.calm (i_enum (w_var 2) c.hK T.z_enumerate) (g_tup c.hK c.calm (gs_cons (g_name 3 c.nd) (gs_cons (g_name 4 c.nd) gs_nil))) (s_cons (s_set 5 c.nd (w_ix c.hK c.u1 (w_ix c.hK c.u1 (w_var 0) (w_var 3)) (w_var 4))) (s_one (s_if (t_or (t_lt (w_var 5) w_int) (t_or1 (t_not (t_val (w_all c T.z_all (w_lc c (own := [("row", 6)]) (i_seq c.hK (w_slice c.hK (w_var 0) o_none (o_some (w_var 3)))) (blkOk_by (by kernel_rfl)) (fun _ _ _ _ _ => (g_name 6 (c.blk _ _ _ _ _).nd)) (fun _ _ _ _ _ => ts_nil) (fun _ _ _ _ _ => (w_chLeLt w_int (w_ix (c.blk _ _ _ _ _).hK (c.blk _ _ _ _ _).u1 (w_var 6) (w_var 4)) (w_var 5))))))))).pt (s_one (s_ret w_bl)) s_nil)))) (s_one (s_ret w_bl))))))
/-! coordinates -/
noncomputable  def b_coordinates : SM := (sSeq (sSet (.name 2) (eNew aNil)) (sSeq (sFor (itSeq (eVar 0)) (.name 3) (sSeq (sSet (.name 4) (eCall 1 m_pivot_of [] (aCons (eVar 3) aNil))) (sSeq (sSet (.name 5) (eOp fdivL (eOp ixD (eVar 1) (eVar 4)) (eOp ixD (eVar 3) (eVar 4)))) (sSeq (sSet (.name 1) (eCall 4 m_combined [] (aCons (eC (.int 1)) (aCons (eVar 1) (aCons (eUn negD (eVar 5)) (aCons (eVar 3) aNil)))))) (sExpr (eLM (fun d ds => fn1 (appD d) ds) (eVar 2) (aCons (eVar 5) aNil))))))) (sSeq (sIf (tst (eOp (isD true) (eCall 1 m_pivot_of [] (aCons (eVar 1) aNil)) (eC .non))) (sRet (eC .non)) sNil) (sRet (eFn (fn1 tupleD) (aCons (eVar 2) aNil))))))
noncomputable def m_coordinates : List D → M D := runB 6 b_coordinates
theorem sc_coordinates : FnScope ["basis", "vector", "found", "row", "column", "factor"] ["basis", "vector"] (defScope st_coordinates) := ⟨rfl, rfl, rfl, by decide +kernel, rfl, by decide +kernel, by decide +kernel⟩
theorem ok_coordinates (T : Top P K mg) : Pr P w K mg base ⟨K, cl⟩ "coordinates" 34 2 [] m_coordinates := by
  have G_pivot_of := ok_pivot_of (P := P) (w := w) (base := base) (cl := cl) T
  have G_combined := ok_combined (P := P) (w := w) (base := base) (cl := cl) T
  refine pr_mk (k := 33) b_coordinates T.d_coordinates sc_coordinates rfl rfl rfl rfl fun f cdv A outer s H E c hp => ?_
  exact (s_cons (s_set 2 c.nd (w_new a_nil)) (s_cons (s_for hp c.calm (i_seq c.hK (w_var 0)) (g_name 3 c.nd) (s_cons (s_set 4 c.nd (w_def c G_pivot_of (by decide) (a_cons (w_var 3) a_nil))) (s_cons (s_set 5 c.nd (w_fdivL c T.seer (by decide) (w_ix c.hK c.u1 (w_var 1) (w_var 4)) (w_ix c.hK c.u1 (w_var 3) (w_var 4)))) (s_cons (s_set 1 c.nd (w_def c G_combined (by decide) (a_cons w_int (a_cons (w_var 1) (a_cons (w_neg (w_var 5)) (a_cons (w_var 3) a_nil)))))) (s_one (s_expr (w_lm c md_append (pe_bm PySem.F.plainAttrs_list PySem.F.slot_list_append PySem.F.type_list_append mt_append (w_var 2) (a_cons (w_var 5) a_nil))))))))) (s_cons (s_if (t_isn (w_def c G_pivot_of (by decide) (a_cons (w_var 1) a_nil)) w_non) (s_one (s_ret w_non)) s_nil) (s_one (s_ret (w_tuple c T.z_tuple (w_var 2)))))))
/-! contains -/
noncomputable  def b_contains : SM := (sRet (eOp (isD true) (eCall 2 m_coordinates [] (aCons (eVar 0) (aCons (eVar 1) aNil))) (eC .non)))
noncomputable def m_contains : List D → M D := runB 2 b_contains
theorem sc_contains : FnScope ["basis", "vector"] ["basis", "vector"] (defScope st_contains) := ⟨rfl, rfl, rfl, by decide +kernel, rfl, by decide +kernel, by decide +kernel⟩
theorem ok_contains (T : Top P K mg) : Pr P w K mg base ⟨K, cl⟩ "contains" 35 2 [] m_contains := by
  have G_coordinates := ok_coordinates (P := P) (w := w) (base := base) (cl := cl) T
  refine pr_mk (k := 34) b_contains T.d_contains sc_contains rfl rfl rfl rfl fun f cdv A outer s H E c hp => ?_
  exact (s_one (s_ret (w_isn (w_def c G_coordinates (by decide) (a_cons (w_var 0) (a_cons (w_var 1) a_nil))) w_non)))
/-! includes -/
noncomputable  def b_includes : SM := (sRet (eFn (fn1 allD) (aCons (eLC (itSeq (eVar 1)) (.name 2) (fun _ => pure true) (eCall 2 m_contains [] (aCons (eVar 0) (aCons (eVar 2) aNil))) [2]) aNil)))
noncomputable def m_includes : List D → M D := runB 3 b_includes
theorem sc_includes : FnScope ["basis", "other", "row"] ["basis", "other"] (defScope st_includes) := ⟨rfl, rfl, rfl, by decide +kernel, rfl, by decide +kernel, by decide +kernel⟩
theorem ok_includes (T : Top P K mg) : Pr P w K mg base ⟨K, cl⟩ "includes" 36 2 [] m_includes := by
  have G_contains := ok_contains (P := P) (w := w) (base := base) (cl := cl) T
  refine pr_mk (k := 35) b_includes T.d_includes sc_includes rfl rfl rfl rfl fun f cdv A outer s H E c hp => ?_
  exact (s_one (s_ret (w_all c T.z_all (w_lc c (own := [("row", 2)]) (i_seq c.hK (w_var 1)) (blkOk_by (by kernel_rfl)) (fun _ _ _ _ _ => (g_name 2 (c.blk _ _ _ _ _).nd)) (fun _ _ _ _ _ => ts_nil) (fun _ _ _ _ _ => (w_def (c.blk _ _ _ _ _) G_contains (by decide) (a_cons (w_var 0) (a_cons (w_var 2) a_nil))))))))
/-! join_of -/
noncomputable  def b_join_of : SM := (sRet (eCall 2 m_hermite [] (aCons (eOp addD (eFn (fn1 tupleD) (aCons (eVar 0) aNil)) (eFn (fn1 tupleD) (aCons (eVar 1) aNil))) (aCons (eVar 2) aNil))))
noncomputable def m_join_of : List D → M D := runB 3 b_join_of
theorem sc_join_of : FnScope ["one", "other", "size"] ["one", "other", "size"] (defScope st_join_of) := ⟨rfl, rfl, rfl, by decide +kernel, rfl, by decide +kernel, by decide +kernel⟩
theorem ok_join_of (T : Top P K mg) : Pr P w K mg base ⟨K, cl⟩ "join_of" 37 3 [] m_join_of := by
  have G_hermite := ok_hermite (P := P) (w := w) (base := base) (cl := cl) T
  refine pr_mk (k := 36) b_join_of T.d_join_of sc_join_of rfl rfl rfl rfl fun f cdv A outer s H E c hp => ?_
  exact (s_one (s_ret (w_def c G_hermite (by decide) (a_cons (w_add c (w_tuple c T.z_tuple (w_var 0)) (w_tuple c T.z_tuple (w_var 1))) (a_cons (w_var 2) a_nil)))))
/-! tails_of -/
noncomputable  def b_tails_of : SM := (sSeq (sSet (.name 3) (eCall 2 m_hermite [] (aCons (eVar 0) (aCons (eOp addD (eVar 1) (eVar 2)) aNil)))) (sRet (eFn (fn1 tupleD) (aCons (eFrz (eLC (itSeq (eVar 3)) (.name 4) (tst (eOp geD (eCall 1 m_pivot_of [] (aCons (eVar 4) aNil)) (eVar 1))) (eSlice (eVar 4) (oSome (eVar 1)) oNone) [4])) aNil))))
noncomputable def m_tails_of : List D → M D := runB 5 b_tails_of
theorem sc_tails_of : FnScope ["rows", "width", "size", "basis", "row"] ["rows", "width", "size"] (defScope st_tails_of) := ⟨rfl, rfl, rfl, by decide +kernel, rfl, by decide +kernel, by decide +kernel⟩
theorem ok_tails_of (T : Top P K mg) : Pr P w K mg base ⟨K, cl⟩ "tails_of" 37 3 [] m_tails_of := by
  have G_hermite := ok_hermite (P := P) (w := w) (base := base) (cl := cl) T
  have G_pivot_of := ok_pivot_of (P := P) (w := w) (base := base) (cl := cl) T
  refine pr_mk (k := 36) b_tails_of T.d_tails_of sc_tails_of rfl rfl rfl rfl fun f cdv A outer s H E c hp => ?_
  exact (s_cons (s_set 3 c.nd (w_def c G_hermite (by decide) (a_cons (w_var 0) (a_cons (w_add c (w_var 1) (w_var 2)) a_nil)))) (s_one (s_ret (w_tuple c T.z_tuple (w_frz (w_lc c (own := [("row", 4)]) (i_seq c.hK (w_var 3)) (blkOk_by (by kernel_rfl)) (fun _ _ _ _ _ => (g_name 4 (c.blk _ _ _ _ _).nd)) (fun _ _ _ _ _ => (ts_one (t_ge (w_def (c.blk _ _ _ _ _) G_pivot_of (by decide) (a_cons (w_var 4) a_nil)) (w_var 1)))) (fun _ _ _ _ _ => (w_slice (c.blk _ _ _ _ _).hK (w_var 4) (o_some (w_var 1)) o_none))))))))
/-! meet_of -/
noncomputable  def b_meet_of : SM := (sSeq (sSet (.name 3) (eOp repD (eTup (aCons (eC (.int 0)) aNil)) (eVar 2))) (sSeq (sSet (.name 4) (eOp addD (eFrz (eLC (itSeq (eVar 0)) (.name 5) (fun _ => pure true) (eOp addD (eFn (fn1 tupleD) (aCons (eVar 5) aNil)) (eFn (fn1 tupleD) (aCons (eVar 5) aNil))) [5])) (eFrz (eLC (itSeq (eVar 1)) (.name 5) (fun _ => pure true) (eOp addD (eFn (fn1 tupleD) (aCons (eVar 5) aNil)) (eVar 3)) [5])))) (sRet (eCall 3 m_tails_of [] (aCons (eVar 4) (aCons (eVar 2) (aCons (eVar 2) aNil)))))))
noncomputable def m_meet_of : List D → M D := runB 6 b_meet_of
theorem sc_meet_of : FnScope ["one", "other", "size", "zero", "rows", "row"] ["one", "other", "size"] (defScope st_meet_of) := ⟨rfl, rfl, rfl, by decide +kernel, rfl, by decide +kernel, by decide +kernel⟩
theorem ok_meet_of (T : Top P K mg) : Pr P w K mg base ⟨K, cl⟩ "meet_of" 38 3 [] m_meet_of := by
  have G_tails_of := ok_tails_of (P := P) (w := w) (base := base) (cl := cl) T
  refine pr_mk (k := 37) b_meet_of T.d_meet_of sc_meet_of rfl rfl rfl rfl fun f cdv A outer s H E c hp => ?_
  exact (s_cons (s_set 3 c.nd (w_rep c (w_tup (a_cons w_int a_nil)) (w_var 2))) (s_cons (s_set 4 c.nd (w_add c (w_frz (w_lc c (own := [("row", 5)]) (i_seq c.hK (w_var 0)) (blkOk_by (by kernel_rfl)) (fun _ _ _ _ _ => (g_name 5 (c.blk _ _ _ _ _).nd)) (fun _ _ _ _ _ => ts_nil) (fun _ _ _ _ _ => (w_add (c.blk _ _ _ _ _) (w_tuple (c.blk _ _ _ _ _) T.z_tuple (w_var 5)) (w_tuple (c.blk _ _ _ _ _) T.z_tuple (w_var 5)))))) (w_frz (w_lc c (own := [("row", 5)]) (i_seq c.hK (w_var 1)) (blkOk_by (by kernel_rfl)) (fun _ _ _ _ _ => (g_name 5 (c.blk _ _ _ _ _).nd)) (fun _ _ _ _ _ => ts_nil) (fun _ _ _ _ _ => (w_add (c.blk _ _ _ _ _) (w_tuple (c.blk _ _ _ _ _) T.z_tuple (w_var 5)) (w_var 3))))))) (s_one (s_ret (w_def c G_tails_of (by decide) (a_cons (w_var 4) (a_cons (w_var 2) (a_cons (w_var 2) a_nil))))))))
/-! split_by -/
noncomputable  def b_split_by : SM := (sSeq (sSet (.name 2) (eNew aNil)) (sSeq (sSet (.tup [(.name 3), (.name 4)]) (eTup (aCons (eC .non) (aCons (eC (.int 0)) aNil)))) (sSeq (sFor (itSeq (eVar 0)) (.name 5) (sSeq (sSet (.name 6) (eCall 2 m_dot [] (aCons (eVar 1) (aCons (eVar 5) aNil)))) (sIf (tst (eOp (eqD false) (eVar 6) (eC (.int 0)))) (sExpr (eLM (fun d ds => fn1 (appD d) ds) (eVar 2) (aCons (eVar 5) aNil))) (sIf (tst (eOp (isD false) (eVar 3) (eC .non))) (sSet (.tup [(.name 3), (.name 4)]) (eIf (tst (eOp gtD (eVar 6) (eC (.int 0)))) (eTup (aCons (eVar 5) (aCons (eVar 6) aNil))) (eTup (aCons (eCall 2 m_scale_form [] (aCons (eUn negD (eC (.int 1))) (aCons (eVar 5) aNil))) (aCons (eUn negD (eVar 6)) aNil))))) (sSeq (sSet (.tup [(.name 7), (.name 8), (.name 9)]) (eCall 2 m_bezout [] (aCons (eVar 4) (aCons (eVar 6) aNil)))) (sSeq (sExpr (eLM (fun d ds => fn1 (appD d) ds) (eVar 2) (aCons (eCall 4 m_combined [] (aCons (eOp fdivL (eVar 6) (eVar 7)) (aCons (eVar 3) (aCons (eUn negD (eOp fdivL (eVar 4) (eVar 7))) (aCons (eVar 5) aNil))))) aNil))) (sPar 3 4 (eCall 4 m_combined [] (aCons (eVar 8) (aCons (eVar 3) (aCons (eVar 9) (aCons (eVar 5) aNil))))) (eVar 7)))))))) (sRet (eTup (aCons (eVar 2) (aCons (eVar 3) (aCons (eVar 4) aNil))))))))
noncomputable def m_split_by : List D → M D := runB 10 b_split_by
theorem sc_split_by : FnScope ["basis", "form", "rows", "top", "value", "row", "here", "common", "one", "other"] ["basis", "form"] (defScope st_split_by) := ⟨rfl, rfl, rfl, by decide +kernel, rfl, by decide +kernel, by decide +kernel⟩
theorem ok_split_by (T : Top P K mg) : Pr P w K mg base ⟨K, cl⟩ "split_by" 34 2 [] m_split_by := by
  have G_dot := ok_dot (P := P) (w := w) (base := base) (cl := cl) T
  have G_scale_form := ok_scale_form (P := P) (w := w) (base := base) (cl := cl) T
  have G_bezout := ok_bezout (P := P) (w := w) (base := base) (cl := cl) T
  have G_combined := ok_combined (P := P) (w := w) (base := base) (cl := cl) T
  refine pr_mk (k := 33) b_split_by T.d_split_by sc_split_by rfl rfl rfl rfl fun f cdv A outer s H E c hp => ?_
  exact (s_cons (s_set 2 c.nd (w_new a_nil)) (s_cons (s_asg (w_tup (a_cons w_non (a_cons w_int a_nil))) (g_tup c.hK c.calm (gs_cons (g_name 3 c.nd) (gs_cons (g_name 4 c.nd) gs_nil)))) (s_cons (s_for hp c.calm (i_seq c.hK (w_var 0)) (g_name 5 c.nd) (s_cons (s_set 6 c.nd (w_def c G_dot (by decide) (a_cons (w_var 1) (a_cons (w_var 5) a_nil)))) (s_one (s_if (t_eq c (w_var 6) w_int) (s_one (s_expr (w_lm c md_append (pe_bm PySem.F.plainAttrs_list PySem.F.slot_list_append PySem.F.type_list_append mt_append (w_var 2) (a_cons (w_var 5) a_nil))))) (s_one (s_if (t_is (w_var 3) w_non) (s_one (s_asg (w_if (t_gt (w_var 6) w_int) (w_tup (a_cons (w_var 5) (a_cons (w_var 6) a_nil))) (w_tup (a_cons (w_def c G_scale_form (by decide) (a_cons (w_neg w_int) (a_cons (w_var 5) a_nil))) (a_cons (w_neg (w_var 6)) a_nil)))) (g_tup c.hK c.calm (gs_cons (g_name 3 c.nd) (gs_cons (g_name 4 c.nd) gs_nil))))) (s_cons (s_asg (w_def c G_bezout (by decide) (a_cons (w_var 4) (a_cons (w_var 6) a_nil))) (g_tup c.hK c.calm (gs_cons (g_name 7 c.nd) (gs_cons (g_name 8 c.nd) (gs_cons (g_name 9 c.nd) gs_nil))))) (s_cons (s_expr (w_lm c md_append (pe_bm PySem.F.plainAttrs_list PySem.F.slot_list_append PySem.F.type_list_append mt_append (w_var 2) (a_cons (w_def c G_combined (by decide) (a_cons (w_fdivL c T.seer (by decide) (w_var 6) (w_var 7)) (a_cons (w_var 3) (a_cons (w_neg (w_fdivL c T.seer (by decide) (w_var 4) (w_var 7))) (a_cons (w_var 5) a_nil))))) a_nil)))) (s_one (s_par c 3 4 (w_def c G_combined (by decide) (a_cons (w_var 8) (a_cons (w_var 3) (a_cons (w_var 9) (a_cons (w_var 5) a_nil))))) (w_var 7))))))))))) (s_one (s_ret (w_tup (a_cons (w_var 2) (a_cons (w_var 3) (a_cons (w_var 4) a_nil)))))))))
/-! grain_of -/
noncomputable  def b_grain_of : SM := (sRet (eCall 1 m_gcd_of [] (aCons (eLC (itSeq (eVar 0)) (.name 2) (fun _ => pure true) (eCall 2 m_dot [] (aCons (eVar 1) (aCons (eVar 2) aNil))) [2]) aNil)))
noncomputable def m_grain_of : List D → M D := runB 3 b_grain_of
theorem sc_grain_of : FnScope ["basis", "form", "row"] ["basis", "form"] (defScope st_grain_of) := ⟨rfl, rfl, rfl, by decide +kernel, rfl, by decide +kernel, by decide +kernel⟩
theorem ok_grain_of (T : Top P K mg) : Pr P w K mg base ⟨K, cl⟩ "grain_of" 35 2 [] m_grain_of := by
  have G_dot := ok_dot (P := P) (w := w) (base := base) (cl := cl) T
  have G_gcd_of := ok_gcd_of (P := P) (w := w) (base := base) (cl := cl) T
  refine pr_mk (k := 34) b_grain_of T.d_grain_of sc_grain_of rfl rfl rfl rfl fun f cdv A outer s H E c hp => ?_
  exact (s_one (s_ret (w_def c G_gcd_of (by decide) (a_cons (w_lc c (own := [("row", 2)]) (i_seq c.hK (w_var 0)) (blkOk_by (by kernel_rfl)) (fun _ _ _ _ _ => (g_name 2 (c.blk _ _ _ _ _).nd)) (fun _ _ _ _ _ => ts_nil) (fun _ _ _ _ _ => (w_def (c.blk _ _ _ _ _) G_dot (by decide) (a_cons (w_var 1) (a_cons (w_var 2) a_nil))))) a_nil))))
/-! restrict -/
noncomputable  def b_restrict : SM := (sSeq (sSet (.tup [(.name 3), (.name 4), (.name 5)]) (eCall 2 m_split_by [] (aCons (eVar 0) (aCons (eVar 1) aNil)))) (sSeq (sIf (tst (eOp (eqD false) (eVar 5) (eC (.int 0)))) (sRet (eFn (fn1 tupleD) (aCons (eLC (itSeq (eVar 0)) (.name 6) (fun _ => pure true) (eFn (fn1 tupleD) (aCons (eVar 6) aNil)) [6]) aNil))) sNil) (sSeq (sIf (tst (eOp gtD (eVar 2) (eC (.int 0)))) (sExpr (eLM (fun d ds => fn1 (appD d) ds) (eVar 3) (aCons (eCall 2 m_scale_form [] (aCons (eOp fdivL (eVar 2) (eCall 1 m_gcd_of [] (aCons (eTup (aCons (eVar 2) (aCons (eVar 5) aNil))) aNil))) (aCons (eVar 4) aNil))) aNil))) sNil) (sRet (eCall 2 m_hermite [] (aCons (eVar 3) (aCons (eFn (fn1 lenD) (aCons (eVar 1) aNil)) aNil)))))))
noncomputable def m_restrict : List D → M D := runB 7 b_restrict
theorem sc_restrict : FnScope ["basis", "form", "modulus", "rows", "top", "grain", "row"] ["basis", "form", "modulus"] (defScope st_restrict) := ⟨rfl, rfl, rfl, by decide +kernel, rfl, by decide +kernel, by decide +kernel⟩
theorem ok_restrict (T : Top P K mg) : Pr P w K mg base ⟨K, cl⟩ "restrict" 37 3 [] m_restrict := by
  have G_split_by := ok_split_by (P := P) (w := w) (base := base) (cl := cl) T
  have G_gcd_of := ok_gcd_of (P := P) (w := w) (base := base) (cl := cl) T
  have G_scale_form := ok_scale_form (P := P) (w := w) (base := base) (cl := cl) T
  have G_hermite := ok_hermite (P := P) (w := w) (base := base) (cl := cl) T
  refine pr_mk (k := 36) b_restrict T.d_restrict sc_restrict rfl rfl rfl rfl fun f cdv A outer s H E c hp => ?_
  exact (s_cons (s_asg (w_def c G_split_by (by decide) (a_cons (w_var 0) (a_cons (w_var 1) a_nil))) (g_tup c.hK c.calm (gs_cons (g_name 3 c.nd) (gs_cons (g_name 4 c.nd) (gs_cons (g_name 5 c.nd) gs_nil))))) (s_cons (s_if (t_eq c (w_var 5) w_int) (s_one (s_ret (w_tuple c T.z_tuple (w_lc c (own := [("row", 6)]) (i_seq c.hK (w_var 0)) (blkOk_by (by kernel_rfl)) (fun _ _ _ _ _ => (g_name 6 (c.blk _ _ _ _ _).nd)) (fun _ _ _ _ _ => ts_nil) (fun _ _ _ _ _ => (w_tuple (c.blk _ _ _ _ _) T.z_tuple (w_var 6))))))) s_nil) (s_cons (s_if (t_gt (w_var 2) w_int) (s_one (s_expr (w_lm c md_append (pe_bm PySem.F.plainAttrs_list PySem.F.slot_list_append PySem.F.type_list_append mt_append (w_var 3) (a_cons (w_def c G_scale_form (by decide) (a_cons (w_fdivL c T.seer (by decide) (w_var 2) (w_def c G_gcd_of (by decide) (a_cons (w_tup (a_cons (w_var 2) (a_cons (w_var 5) a_nil))) a_nil))) (a_cons (w_var 4) a_nil))) a_nil))))) s_nil) (s_one (s_ret (w_def c G_hermite (by decide) (a_cons (w_var 3) (a_cons (w_len c T.z_len (w_var 1)) a_nil))))))))
/-! class_count -/
noncomputable  def b_class_count : SM := (sSeq (sIf (tNotM (tst (eCall 2 m_includes [] (aCons (eVar 0) (aCons (eVar 1) aNil))))) (fun _ => bad) sNil) (sSeq (sIf (tst (eOp (eqD true) (eFn (fn1 lenD) (aCons (eVar 0) aNil)) (eFn (fn1 lenD) (aCons (eVar 1) aNil)))) (sRet (eC (.int 0))) sNil) (sSeq (sSet (.name 2) (eC (.int 1))) (sSeq (sFor (itEnum (eCall 2 m_hermite [] (aCons (eFrz (eLC (itSeq (eVar 1)) (.name 4) (fun _ => pure true) (eCall 2 m_coordinates [] (aCons (eVar 0) (aCons (eVar 4) aNil))) [4])) (aCons (eFn (fn1 lenD) (aCons (eVar 0) aNil)) aNil)))) (.tup [(.name 3), (.name 4)]) (sAug 2 mulD (eOp ixD (eVar 4) (eVar 3)))) (sRet (eVar 2))))))
noncomputable def m_class_count : List D → M D := runB 5 b_class_count
theorem sc_class_count : FnScope ["basis", "other", "result", "place", "row"] ["basis", "other"] (defScope st_class_count) := ⟨rfl, rfl, rfl, by decide +kernel, rfl, by decide +kernel, by decide +kernel⟩
theorem ok_class_count (T : Top P K mg) : Pr P w K mg base ⟨K, cl⟩ "class_count" 37 2 [] m_class_count := by
  have G_includes := ok_includes (P := P) (w := w) (base := base) (cl := cl) T
  have G_coordinates := ok_coordinates (P := P) (w := w) (base := base) (cl := cl) T
  have G_hermite := ok_hermite (P := P) (w := w) (base := base) (cl := cl) T
  refine pr_mk (k := 36) b_class_count T.d_class_count sc_class_count rfl rfl rfl rfl fun f cdv A outer s H E c hp => ?_
  exact (s_cons (s_if (t_not (t_val (w_def c G_includes (by decide) (a_cons (w_var 0) (a_cons (w_var 1) a_nil))))) (s_one s_bad) s_nil) (s_cons (s_if (t_ne c (w_len c T.z_len (w_var 0)) (w_len c T.z_len (w_var 1))) (s_one (s_ret w_int)) s_nil) (s_cons (s_set 2 c.nd w_int) (s_cons (s_for hp c.calm (i_enum (w_def c G_hermite (by decide) (a_cons (w_frz (w_lc c (own := [("row", 4)]) (i_seq c.hK (w_var 1)) (blkOk_by (by kernel_rfl)) (fun _ _ _ _ _ => (g_name 4 (c.blk _ _ _ _ _).nd)) (fun _ _ _ _ _ => ts_nil) (fun _ _ _ _ _ => (w_def (c.blk _ _ _ _ _) G_coordinates (by decide) (a_cons (w_var 0) (a_cons (w_var 4) a_nil)))))) (a_cons (w_len c T.z_len (w_var 0)) a_nil))) c.hK T.z_enumerate) (g_tup c.hK c.calm (gs_cons (g_name 3 c.nd) (gs_cons (g_name 4 c.nd) gs_nil))) (s_one (s_aug c 2 op_imulX od_mul (w_ix c.hK c.u1 (w_var 4) (w_var 3))))) (s_one (s_ret (w_var 2)))))))
/-! _law_draw -/
noncomputable  def b__law_draw : SM := (sSeq (sSetI (eOp addD (eOp ixD (eVar 0) (eC (.int 2))) (eC (.int 1))) (eVar 0) (eC (.int 2))) (sSeq (sIf (tAndM (tst (eOp (eqD false) (eOp ixD (eVar 0) (eC (.int 1))) (eC (.int 0)))) (tst (eOp (eqD true) (eOp ixD (eVar 0) (eC (.int 0))) (eLst aNil)))) (sSeq (sSetI (eLM (fun d ds => fn1 (popD d) ds) (eOp ixD (eVar 0) (eC (.int 0))) (aCons (eC (.int 0)) aNil)) (eVar 0) (eC (.int 1))) (sIf (tst (eOp ltD (eOp ixD (eVar 0) (eC (.int 1))) (eOp powD (eC (.int 10)) (eC (.int 18))))) (sSeq (sSetI (eOp modD (eOp addD (eOp mulD (eOp ixD (eVar 0) (eC (.int 3))) (eC (.int 39373))) (eOp ixD (eVar 0) (eC (.int 1)))) (eC (.int 2147483647))) (eVar 0) (eC (.int 3))) (sSetI (eC (.int 0)) (eVar 0) (eC (.int 1)))) sNil)) sNil) (sSeq (sIf (tst (eOp gtD (eOp ixD (eVar 0) (eC (.int 1))) (eC (.int 0)))) (sSeq (sSet (.name 2) (eOp modD (eOp ixD (eVar 0) (eC (.int 1))) (eVar 1))) (sSeq (sSetI (eOp fdivD (eOp ixD (eVar 0) (eC (.int 1))) (eVar 1)) (eVar 0) (eC (.int 1))) (sRet (eVar 2)))) sNil) (sSeq (sSet (.name 2) (eOp modD (eOp powD (eOp addD (eOp addD (eOp ixD (eVar 0) (eC (.int 3))) (eOp mulD (eC (.int 7919)) (eOp ixD (eVar 0) (eC (.int 2))))) (eC (.int 104729))) (eC (.int 5))) (eC (.int 2147483647)))) (sRet (eOp modD (eOp modD (eOp mulD (eOp addD (eVar 2) (eOp ixD (eVar 0) (eC (.int 2)))) (eC (.int 48271))) (eC (.int 2147483629))) (eVar 1)))))))
noncomputable def m__law_draw : List D → M D := runB 3 b__law_draw
theorem sc__law_draw : FnScope ["stream", "count", "number"] ["stream", "count"] (defScope st__law_draw) := ⟨rfl, rfl, rfl, by decide +kernel, rfl, by decide +kernel, by decide +kernel⟩
theorem ok__law_draw (T : Top P K mg) : Pr P w K mg base ⟨K, cl⟩ "_law_draw" 33 2 [] m__law_draw := by
  refine pr_mk (k := 32) b__law_draw T.d__law_draw sc__law_draw rfl rfl rfl rfl fun f cdv A outer s H E c hp => ?_
  exact (s_cons (s_setI c (w_add c (w_ix c.hK c.u1 (w_var 0) w_int) w_int) (w_var 0) w_int) (s_cons (s_if (t_and (t_eq c (w_ix c.hK c.u1 (w_var 0) w_int) w_int) (t_and1 (t_ne c (w_ix c.hK c.u1 (w_var 0) w_int) (w_lst a_nil)))).pt (s_cons (s_setI c (w_lm c md_pop (pe_bm PySem.F.plainAttrs_list PySem.F.slot_list_pop PySem.F.type_list_pop mt_popAt (w_ix c.hK c.u1 (w_var 0) w_int) (a_cons w_int a_nil))) (w_var 0) w_int) (s_one (s_if (t_lt (w_ix c.hK c.u1 (w_var 0) w_int) (w_pow w_int w_int)) (s_cons (s_setI c (w_mod (w_add c (w_mul (w_ix c.hK c.u1 (w_var 0) w_int) w_int) (w_ix c.hK c.u1 (w_var 0) w_int)) w_int) (w_var 0) w_int) (s_one (s_setI c w_int (w_var 0) w_int))) s_nil))) s_nil) (s_cons (s_if (t_gt (w_ix c.hK c.u1 (w_var 0) w_int) w_int) (s_cons (s_set 2 c.nd (w_mod (w_ix c.hK c.u1 (w_var 0) w_int) (w_var 1))) (s_cons (s_setI c (w_fdiv (w_ix c.hK c.u1 (w_var 0) w_int) (w_var 1)) (w_var 0) w_int) (s_one (s_ret (w_var 2))))) s_nil) (s_cons (s_set 2 c.nd (w_mod (w_pow (w_add c (w_add c (w_ix c.hK c.u1 (w_var 0) w_int) (w_mul w_int (w_ix c.hK c.u1 (w_var 0) w_int))) w_int) w_int) w_int)) (s_one (s_ret (w_mod (w_mod (w_mul (w_add c (w_var 2) (w_ix c.hK c.u1 (w_var 0) w_int)) w_int) w_int) (w_var 1))))))))
/-! _law_common -/
noncomputable  def b__law_common : SM := (sSeq (sPar 0 1 (eFn (fn1 absD) (aCons (eVar 0) aNil)) (eFn (fn1 absD) (aCons (eVar 1) aNil))) (sSeq (sWhile (tst (eOp gtD (eVar 1) (eC (.int 0)))) (sPar 0 1 (eVar 1) (eOp modD (eVar 0) (eVar 1)))) (sRet (eVar 0))))
noncomputable def m__law_common : List D → M D := runB 2 b__law_common
theorem sc__law_common : FnScope ["one", "other"] ["one", "other"] (defScope st__law_common) := ⟨rfl, rfl, rfl, by decide +kernel, rfl, by decide +kernel, by decide +kernel⟩
theorem ok__law_common (T : Top P K mg) : Pr P w K mg base ⟨K, cl⟩ "_law_common" 33 2 [] m__law_common := by
  refine pr_mk (k := 32) b__law_common T.d__law_common sc__law_common rfl rfl rfl rfl fun f cdv A outer s H E c hp => ?_
  exact (s_cons (s_par c 0 1 (w_abs T.z_abs (w_var 0)) (w_abs T.z_abs (w_var 1))) (s_cons (s_while hp (t_gt (w_var 1) w_int) (s_one (s_par c 0 1 (w_var 1) (w_mod (w_var 0) (w_var 1))))) (s_one (s_ret (w_var 0)))))
/-! _law_plus -/
noncomputable  def b__law_plus : SM := (sRet (eFn (fn1 tupleD) (aCons (eLC (itZip (eVar 1) (eVar 2)) (.tup [(.name 3), (.name 4)]) (fun _ => pure true) (eOp addD (eOp mulD (eVar 0) (eVar 3)) (eVar 4)) [3, 4]) aNil)))
noncomputable def m__law_plus : List D → M D := runB 5 b__law_plus
theorem sc__law_plus : FnScope ["factor", "one", "other", "a", "b"] ["factor", "one", "other"] (defScope st__law_plus) := ⟨rfl, rfl, rfl, by decide +kernel, rfl, by decide +kernel, by decide +kernel⟩
theorem ok__law_plus (T : Top P K mg) : Pr P w K mg base ⟨K, cl⟩ "_law_plus" 33 3 [] m__law_plus := by
  refine pr_mk (k := 32) b__law_plus T.d__law_plus sc__law_plus rfl rfl rfl rfl fun f cdv A outer s H E c hp => ?_
  exact (s_one (s_ret (w_tuple c T.z_tuple (w_lc c (own := [("a", 3), ("b", 4)]) (i_zip (w_var 1) (w_var 2) c.hK T.z_zip) (blkOk_by (by kernel_rfl)) (fun _ _ _ _ _ => (g_tup (c.blk _ _ _ _ _).hK (c.blk _ _ _ _ _).calm (gs_cons (g_name 3 (c.blk _ _ _ _ _).nd) (gs_cons (g_name 4 (c.blk _ _ _ _ _).nd) gs_nil)))) (fun _ _ _ _ _ => ts_nil) (fun _ _ _ _ _ => (w_add (c.blk _ _ _ _ _) (w_mul (w_var 0) (w_var 3)) (w_var 4)))))))
/-! _law_basis -/
noncomputable  def b__law_basis : SM := (sSeq (sSet (.name 2) (eLst (aCons (eC (.int 1)) (aCons (eC (.int 1)) (aCons (eC (.int 2)) (aCons (eC (.int 3)) (aCons (eC (.int 4)) (aCons (eC (.int 6)) (aCons (eC (.int 12)) (aCons (eC (.int 35)) (aCons (eC (.int 1009)) (aCons (eOp powD (eC (.int 10)) (eC (.int 6))) aNil)))))))))))) (sSeq (sSet (.name 3) (eLC (itR1 (eVar 1)) (.name 5) (tst (eOp gtD (eCall 2 m__law_draw [] (aCons (eVar 0) (aCons (eC (.int 4)) aNil))) (eC (.int 0)))) (eVar 5) [5])) (sSeq (sSet (.name 4) (eNew aNil)) (sSeq (sFor (itSeq (eVar 3)) (.name 5) (sSeq (sSet (.name 7) (eOp addN (eOp repD (eLst (aCons (eC (.int 0)) aNil)) (eVar 5)) (eLst (aCons (eOp ixD (eVar 2) (eCall 2 m__law_draw [] (aCons (eVar 0) (aCons (eC (.int 10)) aNil)))) aNil)))) (sSeq (sWhile (tst (eOp ltD (eFn (fn1 lenD) (aCons (eVar 7) aNil)) (eVar 1))) (sExpr (eLM (fun d ds => fn1 (appD d) ds) (eVar 7) (aCons (eOp ixD (eLst (aCons (eC (.int 0)) (aCons (eOp subD (eCall 2 m__law_draw [] (aCons (eVar 0) (aCons (eC (.int 7)) aNil))) (eC (.int 3))) (aCons (eCall 2 m__law_draw [] (aCons (eVar 0) (aCons (eOp powD (eC (.int 10)) (eC (.int 6))) aNil))) aNil)))) (eCall 2 m__law_draw [] (aCons (eVar 0) (aCons (eC (.int 3)) aNil)))) aNil)))) (sExpr (eLM (fun d ds => fn1 (appD d) ds) (eVar 4) (aCons (eFn (fn1 tupleD) (aCons (eVar 7) aNil)) aNil)))))) (sSeq (sFor (itEnum (eVar 3)) (.tup [(.name 6), (.name 5)]) (sFor (itR1 (eVar 6)) (.name 8) (sSeq (sSet (.name 9) (eOp fdivL (eOp ixD (eOp ixD (eVar 4) (eVar 8)) (eVar 5)) (eOp ixD (eOp ixD (eVar 4) (eVar 6)) (eVar 5)))) (sSetI (eCall 3 m__law_plus [] (aCons (eOp subD (eC (.int 0)) (eVar 9)) (aCons (eOp ixD (eVar 4) (eVar 6)) (aCons (eOp ixD (eVar 4) (eVar 8)) aNil)))) (eVar 4) (eVar 8))))) (sRet (eFn (fn1 tupleD) (aCons (eVar 4) aNil))))))))
noncomputable def m__law_basis : List D → M D := runB 10 b__law_basis
theorem sc__law_basis : FnScope ["stream", "size", "menu", "columns", "rows", "column", "low", "row", "high", "factor"] ["stream", "size"] (defScope st__law_basis) := ⟨rfl, rfl, rfl, by decide +kernel, rfl, by decide +kernel, by decide +kernel⟩
theorem ok__law_basis (T : Top P K mg) : Pr P w K mg base ⟨K, cl⟩ "_law_basis" 34 2 [] m__law_basis := by
  have G__law_draw := ok__law_draw (P := P) (w := w) (base := base) (cl := cl) T
  have G__law_plus := ok__law_plus (P := P) (w := w) (base := base) (cl := cl) T
  refine pr_mk (k := 33) b__law_basis T.d__law_basis sc__law_basis rfl rfl rfl rfl fun f cdv A outer s H E c hp => ?_
  exact (s_cons (s_set 2 c.nd (w_lst (a_cons w_int (a_cons w_int (a_cons w_int (a_cons w_int (a_cons w_int (a_cons w_int (a_cons w_int (a_cons w_int (a_cons w_int (a_cons (w_pow w_int w_int) a_nil)))))))))))) (s_cons (s_setLC c 3 (own := [("column", 5)]) (i_rng1 (w_var 1) T.z_range) (blkOk_by (by kernel_rfl)) (fun _ _ _ _ _ => (g_name 5 (c.blk _ _ _ _ _).nd)) (fun _ _ _ _ _ => (ts_one (t_gt (w_def (c.blk _ _ _ _ _) G__law_draw (by decide) (a_cons (w_var 0) (a_cons w_int a_nil))) w_int))) (fun _ _ _ _ _ => (w_var 5)) (sw_true rfl rfl rfl (by decide +kernel))) (s_cons (s_set 4 c.nd (w_new a_nil)) (s_cons (s_for hp c.calm (i_seq c.hK (w_var 3)) (g_name 5 c.nd) (s_cons (s_set 7 c.nd (w_addN (w_rep c (w_lst (a_cons w_int a_nil)) (w_var 5)) (w_lst (a_cons (w_ix c.hK c.u1 (w_var 2) (w_def c G__law_draw (by decide) (a_cons (w_var 0) (a_cons w_int a_nil)))) a_nil)))) (s_cons (s_while hp (t_lt (w_len c T.z_len (w_var 7)) (w_var 1)) (s_one (s_expr (w_lm c md_append (pe_bm PySem.F.plainAttrs_list PySem.F.slot_list_append PySem.F.type_list_append mt_append (w_var 7) (a_cons (w_ix c.hK c.u1 (w_lst (a_cons w_int (a_cons (w_sub (w_def c G__law_draw (by decide) (a_cons (w_var 0) (a_cons w_int a_nil))) w_int) (a_cons (w_def c G__law_draw (by decide) (a_cons (w_var 0) (a_cons (w_pow w_int w_int) a_nil))) a_nil)))) (w_def c G__law_draw (by decide) (a_cons (w_var 0) (a_cons w_int a_nil)))) a_nil)))))) (s_one (s_expr (w_lm c md_append (pe_bm PySem.F.plainAttrs_list PySem.F.slot_list_append PySem.F.type_list_append mt_append (w_var 4) (a_cons (w_tuple c T.z_tuple (w_var 7)) a_nil)))))))) (s_cons (s_for hp c.calm (i_enum (w_var 3) c.hK T.z_enumerate) (g_tup c.hK c.calm (gs_cons (g_name 6 c.nd) (gs_cons (g_name 5 c.nd) gs_nil))) (s_one (s_for hp c.calm (i_rng1 (w_var 6) T.z_range) (g_name 8 c.nd) (s_cons (s_set 9 c.nd (w_fdivL c T.seer (by decide) (w_ix c.hK c.u1 (w_ix c.hK c.u1 (w_var 4) (w_var 8)) (w_var 5)) (w_ix c.hK c.u1 (w_ix c.hK c.u1 (w_var 4) (w_var 6)) (w_var 5)))) (s_one (s_setI c (w_def c G__law_plus (by decide) (a_cons (w_sub w_int (w_var 9)) (a_cons (w_ix c.hK c.u1 (w_var 4) (w_var 6)) (a_cons (w_ix c.hK c.u1 (w_var 4) (w_var 8)) a_nil)))) (w_var 4) (w_var 8))))))) (s_one (s_ret (w_tuple c T.z_tuple (w_var 4)))))))))
/-! _law_form -/
noncomputable  def b__law_form : SM := (sRet (eFn (fn1 tupleD) (aCons (eFrz (eLC (itR1 (eVar 1)) (.name 2) (fun _ => pure true) (eOp subD (eCall 2 m__law_draw [] (aCons (eVar 0) (aCons (eC (.int 19)) aNil))) (eC (.int 9))) [2])) aNil)))
noncomputable def m__law_form : List D → M D := runB 3 b__law_form
theorem sc__law_form : FnScope ["stream", "size", "at"] ["stream", "size"] (defScope st__law_form) := ⟨rfl, rfl, rfl, by decide +kernel, rfl, by decide +kernel, by decide +kernel⟩
theorem ok__law_form (T : Top P K mg) : Pr P w K mg base ⟨K, cl⟩ "_law_form" 34 2 [] m__law_form := by
  have G__law_draw := ok__law_draw (P := P) (w := w) (base := base) (cl := cl) T
  refine pr_mk (k := 33) b__law_form T.d__law_form sc__law_form rfl rfl rfl rfl fun f cdv A outer s H E c hp => ?_
  exact (s_one (s_ret (w_tuple c T.z_tuple (w_frz (w_lc c (own := [("at", 2)]) (i_rng1 (w_var 1) T.z_range) (blkOk_by (by kernel_rfl)) (fun _ _ _ _ _ => (g_name 2 (c.blk _ _ _ _ _).nd)) (fun _ _ _ _ _ => ts_nil) (fun _ _ _ _ _ => (w_sub (w_def (c.blk _ _ _ _ _) G__law_draw (by decide) (a_cons (w_var 0) (a_cons w_int a_nil))) w_int)))))))
/-! _law_lattices -/
noncomputable  def b__law_lattices : SM := (sSeq (sSet (.name 2) (eNew (aCons (eCall 2 m__law_basis [] (aCons (eVar 0) (aCons (eVar 1) aNil))) aNil))) (sSeq (sFor (itR1 (eC (.int 2))) (.name 3) (sSeq (sSet (.name 4) (eCall 2 m__law_draw [] (aCons (eVar 0) (aCons (eC (.int 4)) aNil)))) (sSeq (sSet (.name 5) (eOp ixD (eVar 2) (eCall 2 m__law_draw [] (aCons (eVar 0) (aCons (eFn (fn1 lenD) (aCons (eVar 2) aNil)) aNil))))) (sSeq (sIf (tst (eOp (eqD false) (eVar 4) (eC (.int 0)))) (sSet (.name 5) (eCall 3 m_restrict [] (aCons (eVar 5) (aCons (eCall 2 m__law_form [] (aCons (eVar 0) (aCons (eVar 1) aNil))) (aCons (eOp ixD (eLst (aCons (eC (.int 0)) (aCons (eC (.int 2)) (aCons (eC (.int 6)) (aCons (eC (.int 35)) aNil))))) (eCall 2 m__law_draw [] (aCons (eVar 0) (aCons (eC (.int 4)) aNil)))) aNil))))) (sIf (tst (eOp (eqD false) (eVar 4) (eC (.int 1)))) (sSet (.name 5) (eCall 3 m_join_of [] (aCons (eVar 5) (aCons (eCall 2 m__law_basis [] (aCons (eVar 0) (aCons (eVar 1) aNil))) (aCons (eVar 1) aNil))))) (sSet (.name 5) (eCall 2 m__law_basis [] (aCons (eVar 0) (aCons (eVar 1) aNil)))))) (sExpr (eLM (fun d ds => fn2 (insD d) ds) (eVar 2) (aCons (eCall 2 m__law_draw [] (aCons (eVar 0) (aCons (eOp addD (eFn (fn1 lenD) (aCons (eVar 2) aNil)) (eC (.int 1))) aNil))) (aCons (eVar 5) aNil)))))))) (sRet (eFrz (eVar 2)))))
noncomputable def m__law_lattices : List D → M D := runB 6 b__law_lattices
theorem sc__law_lattices : FnScope ["stream", "size", "found", "k", "way", "here"] ["stream", "size"] (defScope st__law_lattices) := ⟨rfl, rfl, rfl, by decide +kernel, rfl, by decide +kernel, by decide +kernel⟩
theorem ok__law_lattices (T : Top P K mg) : Pr P w K mg base ⟨K, cl⟩ "_law_lattices" 38 2 [] m__law_lattices := by
  have G__law_basis := ok__law_basis (P := P) (w := w) (base := base) (cl := cl) T
  have G__law_draw := ok__law_draw (P := P) (w := w) (base := base) (cl := cl) T
  have G__law_form := ok__law_form (P := P) (w := w) (base := base) (cl := cl) T
  have G_restrict := ok_restrict (P := P) (w := w) (base := base) (cl := cl) T
  have G_join_of := ok_join_of (P := P) (w := w) (base := base) (cl := cl) T
  refine pr_mk (k := 37) b__law_lattices T.d__law_lattices sc__law_lattices rfl rfl rfl rfl fun f cdv A outer s H E c hp => ?_
  exact (s_cons (s_set 2 c.nd (w_new (a_cons (w_def c G__law_basis (by decide) (a_cons (w_var 0) (a_cons (w_var 1) a_nil))) a_nil))) (s_cons (s_for hp c.calm (i_rng1 w_int T.z_range) (g_name 3 c.nd) (s_cons (s_set 4 c.nd (w_def c G__law_draw (by decide) (a_cons (w_var 0) (a_cons w_int a_nil)))) (s_cons (s_set 5 c.nd (w_ix c.hK c.u1 (w_var 2) (w_def c G__law_draw (by decide) (a_cons (w_var 0) (a_cons (w_len c T.z_len (w_var 2)) a_nil))))) (s_cons (s_if (t_eq c (w_var 4) w_int) (s_one (s_set 5 c.nd (w_def c G_restrict (by decide) (a_cons (w_var 5) (a_cons (w_def c G__law_form (by decide) (a_cons (w_var 0) (a_cons (w_var 1) a_nil))) (a_cons (w_ix c.hK c.u1 (w_lst (a_cons w_int (a_cons w_int (a_cons w_int (a_cons w_int a_nil))))) (w_def c G__law_draw (by decide) (a_cons (w_var 0) (a_cons w_int a_nil)))) a_nil)))))) (s_one (s_if (t_eq c (w_var 4) w_int) (s_one (s_set 5 c.nd (w_def c G_join_of (by decide) (a_cons (w_var 5) (a_cons (w_def c G__law_basis (by decide) (a_cons (w_var 0) (a_cons (w_var 1) a_nil))) (a_cons (w_var 1) a_nil)))))) (s_one (s_set 5 c.nd (w_def c G__law_basis (by decide) (a_cons (w_var 0) (a_cons (w_var 1) a_nil)))))))) (s_one (s_expr (w_lm c md_insert (pe_bm PySem.F.plainAttrs_list PySem.F.slot_list_insert PySem.F.type_list_insert mtr_insert (w_var 2) (a_cons (w_def c G__law_draw (by decide) (a_cons (w_var 0) (a_cons (w_add c (w_len c T.z_len (w_var 2)) w_int) a_nil))) (a_cons (w_var 5) a_nil)))))))))) (s_one (s_ret (w_frz (w_var 2))))))
/-! law -/
noncomputable  def b_law : SM := (sSeq (sSet (.name 1) (eNew (aCons (eFn (fn1 listN) (aCons (eVar 0) aNil)) (aCons (eC (.int 0)) (aCons (eC (.int 0)) (aCons (eC (.int 0)) aNil)))))) (sSeq (sSet (.name 2) (eOp addD (eC (.int 1)) (eCall 2 m__law_draw [] (aCons (eVar 1) (aCons (eC (.int 4)) aNil))))) (sSeq (sSet (.tup [(.name 3), (.name 4), (.name 5)]) (eCall 2 m__law_lattices [] (aCons (eVar 1) (aCons (eVar 2) aNil)))) (sSeq (sPar 6 7 (eCall 3 m_meet_of [] (aCons (eVar 3) (aCons (eVar 4) (aCons (eVar 2) aNil)))) (eCall 3 m_join_of [] (aCons (eVar 3) (aCons (eVar 4) (aCons (eVar 2) aNil))))) (sSeq (sIf (tOrM (tst (eOp (eqD true) (eVar 6) (eCall 3 m_meet_of [] (aCons (eVar 4) (aCons (eVar 3) (aCons (eVar 2) aNil)))))) (tOrM (tst (eOp (eqD true) (eVar 7) (eCall 3 m_join_of [] (aCons (eVar 4) (aCons (eVar 3) (aCons (eVar 2) aNil)))))) (tNotM (tst (eCall 2 m_is_basis [] (aCons (eVar 6) (aCons (eVar 2) aNil))))))) (sRet (eC (.bl false))) sNil) (sSeq (sIf (tOrM (tst (eOp (eqD true) (eCall 3 m_meet_of [] (aCons (eVar 6) (aCons (eVar 5) (aCons (eVar 2) aNil)))) (eCall 3 m_meet_of [] (aCons (eVar 3) (aCons (eCall 3 m_meet_of [] (aCons (eVar 4) (aCons (eVar 5) (aCons (eVar 2) aNil)))) (aCons (eVar 2) aNil)))))) (tNotM (tst (eCall 2 m_is_basis [] (aCons (eVar 7) (aCons (eVar 2) aNil)))))) (sRet (eC (.bl false))) sNil) (sSeq (sIf (tst (eOp (eqD true) (eCall 3 m_join_of [] (aCons (eVar 7) (aCons (eVar 5) (aCons (eVar 2) aNil)))) (eCall 3 m_join_of [] (aCons (eVar 3) (aCons (eCall 3 m_join_of [] (aCons (eVar 4) (aCons (eVar 5) (aCons (eVar 2) aNil)))) (aCons (eVar 2) aNil)))))) (sRet (eC (.bl false))) sNil) (sSeq (sIf (tOrM (tst (eOp (eqD true) (eCall 3 m_meet_of [] (aCons (eVar 3) (aCons (eVar 3) (aCons (eVar 2) aNil)))) (eVar 3))) (tst (eOp (eqD true) (eCall 3 m_join_of [] (aCons (eVar 3) (aCons (eVar 3) (aCons (eVar 2) aNil)))) (eVar 3)))) (sRet (eC (.bl false))) sNil) (sSeq (sIf (tOrM (tst (eOp (eqD true) (eCall 3 m_join_of [] (aCons (eVar 3) (aCons (eVar 6) (aCons (eVar 2) aNil)))) (eVar 3))) (tst (eOp (eqD true) (eCall 3 m_meet_of [] (aCons (eVar 3) (aCons (eVar 7) (aCons (eVar 2) aNil)))) (eVar 3)))) (sRet (eC (.bl false))) sNil) (sSeq (sIf (tst (eOp (eqD true) (eCall 3 m_meet_of [] (aCons (eVar 3) (aCons (eCall 3 m_join_of [] (aCons (eVar 6) (aCons (eVar 5) (aCons (eVar 2) aNil)))) (aCons (eVar 2) aNil)))) (eCall 3 m_join_of [] (aCons (eVar 6) (aCons (eCall 3 m_meet_of [] (aCons (eVar 3) (aCons (eVar 5) (aCons (eVar 2) aNil)))) (aCons (eVar 2) aNil)))))) (sRet (eC (.bl false))) sNil) (sSeq (sSet (.name 8) (eCall 2 m_includes [] (aCons (eVar 3) (aCons (eVar 4) aNil)))) (sSeq (sIf (tOrM (tst (eOp (eqD true) (eVar 8) (eOp (eqD false) (eVar 7) (eVar 3)))) (tst (eOp (eqD true) (eVar 8) (eOp (eqD false) (eVar 6) (eVar 4))))) (sRet (eC (.bl false))) sNil) (sSeq (sIf (tOrM (tNotM (tst (eCall 2 m_includes [] (aCons (eVar 3) (aCons (eVar 6) aNil))))) (tOrM (tNotM (tst (eCall 2 m_includes [] (aCons (eVar 4) (aCons (eVar 6) aNil))))) (tOrM (tNotM (tst (eCall 2 m_includes [] (aCons (eVar 7) (aCons (eVar 3) aNil))))) (tNotM (tst (eCall 2 m_includes [] (aCons (eVar 7) (aCons (eVar 4) aNil)))))))) (sRet (eC (.bl false))) sNil) (sSeq (sSet (.name 9) (eCall 2 m__law_form [] (aCons (eVar 1) (aCons (eVar 2) aNil)))) (sSeq (sIf (tst (eOp (eqD true) (eCall 2 m_grain_of [] (aCons (eVar 7) (aCons (eVar 9) aNil))) (eCall 2 m__law_common [] (aCons (eCall 2 m_grain_of [] (aCons (eVar 3) (aCons (eVar 9) aNil))) (aCons (eCall 2 m_grain_of [] (aCons (eVar 4) (aCons (eVar 9) aNil))) aNil))))) (sRet (eC (.bl false))) sNil) (sRet (eOp (eqD false) (eCall 2 m_class_count [] (aCons (eVar 7) (aCons (eVar 3) aNil))) (eCall 2 m_class_count [] (aCons (eVar 4) (aCons (eVar 6) aNil))))))))))))))))))))
noncomputable def m_law : List D → M D := runB 10 b_law
theorem sc_law : FnScope ["script", "stream", "size", "a", "b", "c", "both", "either", "inside", "form"] ["script"] (defScope st_law) := ⟨rfl, rfl, rfl, by decide +kernel, rfl, by decide +kernel, by decide +kernel⟩
theorem okL_law (T : Top P K mg) {f : Addr} {fd : FuncData} (F : Fun K "law" "law" st_law f fd) : FnG P w K mg base (L2.CX P w) 39 f fd ["script"] (spM ⟨K, cl⟩ 1 m_law) := by
  have G__law_draw := ok__law_draw (P := P) (w := w) (base := base) (cl := cl) T
  have G__law_lattices := ok__law_lattices (P := P) (w := w) (base := base) (cl := cl) T
  have G_meet_of := ok_meet_of (P := P) (w := w) (base := base) (cl := cl) T
  have G_join_of := ok_join_of (P := P) (w := w) (base := base) (cl := cl) T
  have G_is_basis := ok_is_basis (P := P) (w := w) (base := base) (cl := cl) T
  have G_includes := ok_includes (P := P) (w := w) (base := base) (cl := cl) T
  have G__law_form := ok__law_form (P := P) (w := w) (base := base) (cl := cl) T
  have G_grain_of := ok_grain_of (P := P) (w := w) (base := base) (cl := cl) T
  have G__law_common := ok__law_common (P := P) (w := w) (base := base) (cl := cl) T
  have G_class_count := ok_class_count (P := P) (w := w) (base := base) (cl := cl) T
  exact fn_mirG ⟨K, cl⟩ rfl F sc_law fun cdv A outer s H E c gd hp => (s_cons (s_set 1 c.nd (w_new (a_cons (w_listN c T.z_list (w_var 0)) (a_cons w_int (a_cons w_int (a_cons w_int a_nil)))))) (s_cons (s_set 2 c.nd (w_add c w_int (w_def c G__law_draw (by decide) (a_cons (w_var 1) (a_cons w_int a_nil))))) (s_cons (s_asg (w_def c G__law_lattices (by decide) (a_cons (w_var 1) (a_cons (w_var 2) a_nil))) (g_tup c.hK c.calm (gs_cons (g_name 3 c.nd) (gs_cons (g_name 4 c.nd) (gs_cons (g_name 5 c.nd) gs_nil))))) (s_cons (s_par c 6 7 (w_def c G_meet_of (by decide) (a_cons (w_var 3) (a_cons (w_var 4) (a_cons (w_var 2) a_nil)))) (w_def c G_join_of (by decide) (a_cons (w_var 3) (a_cons (w_var 4) (a_cons (w_var 2) a_nil))))) (s_cons (s_if (t_or (t_ne c (w_var 6) (w_def c G_meet_of (by decide) (a_cons (w_var 4) (a_cons (w_var 3) (a_cons (w_var 2) a_nil))))) (t_or (t_ne c (w_var 7) (w_def c G_join_of (by decide) (a_cons (w_var 4) (a_cons (w_var 3) (a_cons (w_var 2) a_nil))))) (t_or1 (t_not (t_val (w_def c G_is_basis (by decide) (a_cons (w_var 6) (a_cons (w_var 2) a_nil)))))))).pt (s_one (s_ret w_bl)) s_nil) (s_cons (s_if (t_or (t_ne c (w_def c G_meet_of (by decide) (a_cons (w_var 6) (a_cons (w_var 5) (a_cons (w_var 2) a_nil)))) (w_def c G_meet_of (by decide) (a_cons (w_var 3) (a_cons (w_def c G_meet_of (by decide) (a_cons (w_var 4) (a_cons (w_var 5) (a_cons (w_var 2) a_nil)))) (a_cons (w_var 2) a_nil))))) (t_or1 (t_not (t_val (w_def c G_is_basis (by decide) (a_cons (w_var 7) (a_cons (w_var 2) a_nil))))))).pt (s_one (s_ret w_bl)) s_nil) (s_cons (s_if (t_ne c (w_def c G_join_of (by decide) (a_cons (w_var 7) (a_cons (w_var 5) (a_cons (w_var 2) a_nil)))) (w_def c G_join_of (by decide) (a_cons (w_var 3) (a_cons (w_def c G_join_of (by decide) (a_cons (w_var 4) (a_cons (w_var 5) (a_cons (w_var 2) a_nil)))) (a_cons (w_var 2) a_nil))))) (s_one (s_ret w_bl)) s_nil) (s_cons (s_if (t_or (t_ne c (w_def c G_meet_of (by decide) (a_cons (w_var 3) (a_cons (w_var 3) (a_cons (w_var 2) a_nil)))) (w_var 3)) (t_or1 (t_ne c (w_def c G_join_of (by decide) (a_cons (w_var 3) (a_cons (w_var 3) (a_cons (w_var 2) a_nil)))) (w_var 3)))).pt (s_one (s_ret w_bl)) s_nil) (s_cons (s_if (t_or (t_ne c (w_def c G_join_of (by decide) (a_cons (w_var 3) (a_cons (w_var 6) (a_cons (w_var 2) a_nil)))) (w_var 3)) (t_or1 (t_ne c (w_def c G_meet_of (by decide) (a_cons (w_var 3) (a_cons (w_var 7) (a_cons (w_var 2) a_nil)))) (w_var 3)))).pt (s_one (s_ret w_bl)) s_nil) (s_cons (s_if (t_ne c (w_def c G_meet_of (by decide) (a_cons (w_var 3) (a_cons (w_def c G_join_of (by decide) (a_cons (w_var 6) (a_cons (w_var 5) (a_cons (w_var 2) a_nil)))) (a_cons (w_var 2) a_nil)))) (w_def c G_join_of (by decide) (a_cons (w_var 6) (a_cons (w_def c G_meet_of (by decide) (a_cons (w_var 3) (a_cons (w_var 5) (a_cons (w_var 2) a_nil)))) (a_cons (w_var 2) a_nil))))) (s_one (s_ret w_bl)) s_nil) (s_cons (s_set 8 c.nd (w_def c G_includes (by decide) (a_cons (w_var 3) (a_cons (w_var 4) a_nil)))) (s_cons (s_if (t_or (t_ne c (w_var 8) (w_eq c (w_var 7) (w_var 3))) (t_or1 (t_ne c (w_var 8) (w_eq c (w_var 6) (w_var 4))))).pt (s_one (s_ret w_bl)) s_nil) (s_cons (s_if (t_or (t_not (t_val (w_def c G_includes (by decide) (a_cons (w_var 3) (a_cons (w_var 6) a_nil))))) (t_or (t_not (t_val (w_def c G_includes (by decide) (a_cons (w_var 4) (a_cons (w_var 6) a_nil))))) (t_or (t_not (t_val (w_def c G_includes (by decide) (a_cons (w_var 7) (a_cons (w_var 3) a_nil))))) (t_or1 (t_not (t_val (w_def c G_includes (by decide) (a_cons (w_var 7) (a_cons (w_var 4) a_nil))))))))).pt (s_one (s_ret w_bl)) s_nil) (s_cons (s_set 9 c.nd (w_def c G__law_form (by decide) (a_cons (w_var 1) (a_cons (w_var 2) a_nil)))) (s_cons (s_if (t_ne c (w_def c G_grain_of (by decide) (a_cons (w_var 7) (a_cons (w_var 9) a_nil))) (w_def c G__law_common (by decide) (a_cons (w_def c G_grain_of (by decide) (a_cons (w_var 3) (a_cons (w_var 9) a_nil))) (a_cons (w_def c G_grain_of (by decide) (a_cons (w_var 4) (a_cons (w_var 9) a_nil))) a_nil)))) (s_one (s_ret w_bl)) s_nil) (s_one (s_ret (w_eq c (w_def c G_class_count (by decide) (a_cons (w_var 7) (a_cons (w_var 3) a_nil))) (w_def c G_class_count (by decide) (a_cons (w_var 4) (a_cons (w_var 6) a_nil)))))))))))))))))))))
end
end Lk16

namespace Mir
open PySem PySem.Spec PyProof.Rows L2

/-! ### reasoning about mirrors -/
/-- the mirror ends well, with Q -/
def Wp {α : Type} (m : M α) (st : Sto) (Q : α → Sto → Prop) : Prop := ∃ a st', m st = .ok a st' ∧ Q a st'
section
variable {α β : Type} {m : M α} {f : α → M β} {st : Sto} {Q : α → Sto → Prop} {R : β → Sto → Prop}
theorem Wp.pure {a : α} (h : Q a st) : Wp (pure a) st Q := ⟨a, st, rfl, h⟩
theorem Wp.ok {a : α} {st' : Sto} (e : m st = .ok a st') (h : Q a st') : Wp m st Q := ⟨a, st', e, h⟩
theorem Wp.bind (h : Wp m st fun a st' => Wp (f a) st' R) : Wp (m >>= f) st R := by
  obtain ⟨a, st1, e1, b, st2, e2, r⟩ := h
  refine ⟨b, st2, ?_, r⟩
  rw [bind_def, e1]
  exact e2
theorem Wp.mono {Q' : α → Sto → Prop} (h : Wp m st Q) (i : ∀ a st', Q a st' → Q' a st') : Wp m st Q' := by
  obtain ⟨a, st1, e, q⟩ := h
  exact ⟨a, st1, e, i _ _ q⟩
/-- a value known -/
theorem Wp.step {a : α} {st' : Sto} (e : m st = .ok a st') (h : Wp (f a) st' R) : Wp (m >>= f) st R := Wp.bind ⟨a, st', e, h⟩
end
theorem bind_ok {α β : Type} {m : M α} {f : α → M β} {st st' : Sto} {a : α} (e : m st = .ok a st') : (m >>= f) st = f a st' := by
  rw [bind_def, e]
  rfl
theorem okIf_true {c : Bool} {d : D} {st : Sto} (h : c = true) : okIf c d st = .ok d st := by
  rw [h]
  rfl
theorem szOk_of {n : Nat} (h : n ≤ 1000000) : szOk n = true := decide_eq_true (Nat.le_trans h (by decide))

/-! ### stores that grow -/
/-- all objects but those at S stand as they were -/
structure Kp (S : List Nat) (st st' : Sto) : Prop where
  len : st.length ≤ st'.length
  at' : ∀ (i : Nat) (o : O), i ∉ S → st[i]? = some o → st'[i]? = some o
theorem Kp.refl (S : List Nat) (st : Sto) : Kp S st st := ⟨Nat.le_refl _, fun _ _ _ h => h⟩
theorem Kp.trans {S : List Nat} {a b c : Sto} (x : Kp S a b) (y : Kp S b c) : Kp S a c := ⟨Nat.le_trans x.len y.len, fun i o h e => y.at' i o h (x.at' i o h e)⟩
theorem Kp.more {S T : List Nat} {a b : Sto} (x : Kp S a b) (h : ∀ i ∈ S, i ∈ T) : Kp T a b := ⟨x.len, fun i o n e => x.at' i o (fun z => n (h i z)) e⟩
theorem Kp.app (S : List Nat) (st : Sto) (o : O) : Kp S st (st ++ [o]) := ⟨by simp, fun i u _ e => by rw [List.getElem?_append_left (List.getElem?_eq_some_iff.mp e).1]; exact e⟩
/-- an object made later may change -/
theorem Kp.set {S : List Nat} {a b : Sto} (x : Kp S a b) {n : Nat} (h : a.length ≤ n ∨ n ∈ S) (o : O) : Kp S a (b.set n o) :=
  ⟨by rw [List.length_set]; exact x.len, fun i u hi e => by
    have l := (List.getElem?_eq_some_iff.mp e).1
    rw [List.getElem?_set_ne (fun z => by
      rcases h with h | h
      · omega
      · exact hi (z ▸ h))]
    exact x.at' i u hi e⟩

/-! ### comprehensions -/
theorem appO_ok {n : Nat} {y : D} {st : Sto} {acc : List D} (h : st[n]? = some (.lst acc)) (hz : acc.length + 1 ≤ 1000000) : appO n y st = .ok () (st.set n (.lst (acc ++ [y]))) := by
  simp only [appO, h, szOk_of hz, if_true]
/-- J: by the turn and the list so far, over the whole store -/
theorem wp_lcGo {n : Nat} {t : Tg} {mt : Env → M Bool} {me : Env → M D} {env : Env} {ck : Sto → Prop} (items : List D) (J : Nat → List D → Sto → Prop)
    (hck : ∀ i acc st, J i acc st → ck st) 
    (step : ∀ i d acc st, items[i]? = some d → J i acc st → ∃ env1, tgD t d env = some env1 ∧ Wp (mt env1) st fun c st1 =>
      if c then Wp (me env1) st1 fun y st2 => st2[n]? = some (.lst acc) ∧ acc.length + 1 ≤ 1000000 ∧ J (i + 1) (acc ++ [y]) (st2.set n (.lst (acc ++ [y]))) else J (i + 1) acc st1) :
    ∀ (k : Nat) (acc : List D) (st : Sto), k ≤ items.length → J k acc st → Wp (lcGo n t mt me env ck (items.drop k)) st fun d st' => d = .obj n ∧ ∃ acc', J items.length acc' st' := by
  intro k acc st hk hJ
  by_cases hl : k < items.length
  · have hd : items[k]? = some items[k] := List.getElem?_eq_getElem hl
    rw [List.drop_eq_getElem_cons hl]
    obtain ⟨env1, e1, h1⟩ := step k _ acc st hd hJ
    refine Wp.step (ckM_pos (hck _ _ _ hJ)) ?_
    show Wp (fun st => match tgD t items[k] env with
      | some env1 => (mt env1 >>= fun c => if c then (me env1 >>= fun y => appO n y >>= fun _ => lcGo n t mt me env ck (items.drop (k + 1))) else lcGo n t mt me env ck (items.drop (k + 1))) st
      | none => .bad) st _
    obtain ⟨c, st1, e2, h2⟩ := h1
    have go : Wp (mt env1 >>= fun c => if c then (me env1 >>= fun y => appO n y >>= fun _ => lcGo n t mt me env ck (items.drop (k + 1))) else lcGo n t mt me env ck (items.drop (k + 1))) st fun d st' => d = .obj n ∧ ∃ acc', J items.length acc' st' := by
      refine Wp.step e2 ?_
      cases c with
      | false =>
        simp only [Bool.false_eq_true, if_false] at h2 ⊢
        exact wp_lcGo items J hck step (k + 1) acc st1 hl h2
      | true =>
        simp only [if_true] at h2 ⊢
        obtain ⟨y, st2, e3, g1, g2, g3⟩ := h2
        refine Wp.step e3 (Wp.step (appO_ok g1 g2) ?_)
        exact wp_lcGo items J hck step (k + 1) (acc ++ [y]) _ hl g3
    obtain ⟨a, st', e4, q⟩ := go
    refine ⟨a, st', ?_, q⟩
    simp only [e1]
    exact e4
  · have he : k = items.length := by omega
    subst he
    rw [List.drop_length]
    exact Wp.step (ckM_pos (hck _ _ _ hJ)) (Wp.pure ⟨rfl, acc, hJ⟩)
termination_by k => items.length - k
theorem noX_ok {α : Type} {m : M α} {st st' : Sto} {a : α} (e : m st = .ok a st') : noX m st = .ok a st' := by
  unfold noX
  rw [e]
theorem wp_noX {α : Type} {m : M α} {st : Sto} {Q : α → Sto → Prop} (h : Wp m st Q) : Wp (noX m) st Q := by
  obtain ⟨a, st', e, q⟩ := h
  exact ⟨a, st', noX_ok e, q⟩
/-- the whole comprehension, its source known -/
theorem wp_lc {mi : Env → M Src} {t : Tg} {mt : Env → M Bool} {me : Env → M D} {vs : List Nat} {env : Env} {st st1 : Sto} {src : Src} (hs : mi env st = .ok src st1) (J : Nat → List D → Sto → Prop) (h0 : J 0 [] (st1 ++ [.lst []]))
    (hck : ∀ i acc st, J i acc st → src.2 st)
    (step : ∀ i d acc st, src.1[i]? = some d → J i acc st → ∃ env1, tgD t d (wipeE env vs) = some env1 ∧ Wp (mt env1) st fun c st' =>
      if c then Wp (me env1) st' fun y st2 => st2[st1.length]? = some (.lst acc) ∧ acc.length + 1 ≤ 1000000 ∧ J (i + 1) (acc ++ [y]) (st2.set st1.length (.lst (acc ++ [y]))) else J (i + 1) acc st') :
    Wp (eLC mi t mt me vs env) st fun d st' => d = .obj st1.length ∧ ∃ acc, J src.1.length acc st' := by
  unfold eLC
  refine Wp.step hs ?_
  obtain ⟨a, st', e, q⟩ := wp_lcGo src.1 J hck step 0 [] _ (Nat.zero_le _) h0
  exact ⟨a, st', noX_ok e, q⟩
/-- each element a function of the item, found out without a change of what stood: all of them -/
theorem wp_lc_map {mi : Env → M Src} {t : Tg} {me : Env → M D} {vs : List Nat} {env : Env} {st : Sto} {src : Src} (hs : mi env st = .ok src st) (S : List Nat) (f : D → D) (hS : ∀ i ∈ S, i < st.length) (hz : src.1.length ≤ 1000000)
    (hck : ∀ st', Kp [] st st' → src.2 st')
    (step : ∀ d ∈ src.1, ∀ st1, Kp [] st st1 → ∃ env1, tgD t d (wipeE env vs) = some env1 ∧ Wp (me env1) st1 fun y st2 => y = f d ∧ Kp [] st1 st2) :
    Wp (eLC mi t (fun _ => pure true) me vs env) st fun d st' => d = .obj st.length ∧ Kp [] st st' ∧ st'[st.length]? = some (.lst (src.1.map f)) := by
  refine (wp_lc hs (fun i acc st' => Kp [] st st' ∧ st'[st.length]? = some (.lst acc) ∧ acc = (src.1.take i).map f) ?_ (fun i acc st' h => hck st' h.1) ?_).mono fun d st' h => ?_
  · exact ⟨Kp.app _ _ _, by rw [List.getElem?_append_right (Nat.le_refl _), Nat.sub_self]; rfl, rfl⟩
  · rintro i d acc st1 hd ⟨k1, e1, e2⟩
    obtain ⟨env1, t1, y, st2, w1, rfl, k2⟩ := step d (List.mem_of_getElem? hd) st1 k1
    have hi := (List.getElem?_eq_some_iff.mp hd).1
    refine ⟨env1, t1, Wp.pure ?_⟩
    rw [if_pos rfl]
    refine ⟨f d, st2, w1, k2.at' _ _ (by simp) e1, ?_, ?_, ?_, ?_⟩
    · rw [e2, List.length_map, List.length_take]
      omega
    · exact (k1.trans k2).set (.inl (Nat.le_refl _)) _
    · rw [List.getElem?_set_self]
      exact (List.getElem?_eq_some_iff.mp (k2.at' _ _ (by simp) e1)).1
    · rw [e2, List.take_add_one, hd, List.map_append]
      rfl
  · obtain ⟨rfl, acc, k, e1, e2⟩ := h
    rw [List.take_length] at e2
    exact ⟨rfl, k, by rw [e1, e2]⟩

/-! ### loops -/
/-- what a turn is to reach -/
def TurnQ (J : Env → Sto → Prop) (Q : Fl × Env → Sto → Prop) (r : Fl × Env) (st : Sto) : Prop := match r.1 with
  | .nx => J r.2 st
  | .cnt => J r.2 st
  | .brk => Q (.nx, r.2) st
  | .ret _ => Q r st
theorem wp_forL {body : D → SM} {ck : Sto → Prop} (items : List D) (J : Nat → Env → Sto → Prop) (Q : Fl × Env → Sto → Prop) (hck : ∀ i env st, J i env st → ck st)
    (step : ∀ i d env st, items[i]? = some d → J i env st → Wp (body d env) st (TurnQ (J (i + 1)) Q)) (fin : ∀ env st, J items.length env st → Q (.nx, env) st) :
    ∀ (k : Nat) (env : Env) (st : Sto), k ≤ items.length → J k env st → Wp (forL body ck (items.drop k) env) st Q := by
  intro k env st hk hJ
  by_cases hl : k < items.length
  · have hd : items[k]? = some items[k] := List.getElem?_eq_getElem hl
    rw [List.drop_eq_getElem_cons hl]
    refine Wp.step (ckM_pos (hck _ _ _ hJ)) ?_
    obtain ⟨⟨fl, env1⟩, st1, e1, q1⟩ := step k _ env st hd hJ
    refine Wp.step e1 ?_
    cases fl with
    | nx => exact wp_forL items J Q hck step fin (k + 1) env1 st1 hl q1
    | cnt => exact wp_forL items J Q hck step fin (k + 1) env1 st1 hl q1
    | brk => exact Wp.pure q1
    | ret v => exact Wp.pure q1
  · have he : k = items.length := by omega
    subst he
    rw [List.drop_length]
    exact Wp.step (ckM_pos (hck _ _ _ hJ)) (Wp.pure (fin _ _ hJ))
termination_by k => items.length - k
theorem wp_for {mi : Env → M Src} {t : Tg} {b : SM} {env : Env} {st st1 : Sto} {src : Src} (hs : mi env st = .ok src st1) (J : Nat → Env → Sto → Prop) (Q : Fl × Env → Sto → Prop) (h0 : J 0 env st1) (hck : ∀ i env st, J i env st → src.2 st)
    (step : ∀ i d env st, src.1[i]? = some d → J i env st → ∃ env1, tgD t d env = some env1 ∧ Wp (b env1) st (TurnQ (J (i + 1)) Q)) (fin : ∀ env st, J src.1.length env st → Q (.nx, env) st) : Wp (sFor mi t b env) st Q := by
  unfold sFor
  refine Wp.step hs ?_
  refine wp_forL src.1 J Q hck (fun i d env st hd hJ => ?_) fin 0 env st1 (Nat.zero_le _) h0
  obtain ⟨env1, e1, r, st', e2, q⟩ := step i d env st hd hJ
  refine ⟨r, st', ?_, q⟩
  unfold inTg
  simp only [e1]
  exact e2
theorem whN_more {c : Env → M Bool} {b : SM} : ∀ (n : Nat) (env : Env) (st : Sto), whN c b n env st ≠ .bad → whN c b (n + 1) env st = whN c b n env st
  | 0, env, st, h => absurd rfl h
  | n + 1, env, st, h => by
    show (c env >>= fun t => if t then (b env >>= fun r => match r.1 with
      | .nx => whN c b (n + 1) r.2
      | .cnt => whN c b (n + 1) r.2
      | .brk => pure (.nx, r.2)
      | .ret _ => pure r) else pure (.nx, env)) st = (c env >>= fun t => if t then (b env >>= fun r => match r.1 with
      | .nx => whN c b n r.2
      | .cnt => whN c b n r.2
      | .brk => pure (.nx, r.2)
      | .ret _ => pure r) else pure (.nx, env)) st
    replace h : (c env >>= fun t => if t then (b env >>= fun r => match r.1 with
      | .nx => whN c b n r.2
      | .cnt => whN c b n r.2
      | .brk => pure (.nx, r.2)
      | .ret _ => pure r) else pure (.nx, env)) st ≠ .bad := h
    rw [bind_def] at h ⊢
    rw [bind_def]
    cases e : c env st with
    | bad => rfl
    | exc x s => rfl
    | ok t st1 =>
      rw [e] at h
      cases t with
      | false => rfl
      | true =>
        replace h : (b env >>= fun r => match r.1 with
          | .nx => whN c b n r.2
          | .cnt => whN c b n r.2
          | .brk => pure (.nx, r.2)
          | .ret _ => pure r) st1 ≠ .bad := h
        show (b env >>= fun r => match r.1 with
          | .nx => whN c b (n + 1) r.2
          | .cnt => whN c b (n + 1) r.2
          | .brk => pure (.nx, r.2)
          | .ret _ => pure r) st1 = (b env >>= fun r => match r.1 with
          | .nx => whN c b n r.2
          | .cnt => whN c b n r.2
          | .brk => pure (.nx, r.2)
          | .ret _ => pure r) st1
        rw [bind_def] at h ⊢
        rw [bind_def]
        cases e2 : b env st1 with
        | bad => rfl
        | exc x s => rfl
        | ok r st2 =>
          rw [e2] at h
          obtain ⟨fl, env2⟩ := r
          cases fl with
          | nx => exact whN_more n env2 st2 h
          | cnt => exact whN_more n env2 st2 h
          | brk => rfl
          | ret v => rfl
theorem whN_ge {c : Env → M Bool} {b : SM} {n : Nat} {env : Env} {st : Sto} (h : whN c b n env st ≠ .bad) : ∀ k, whN c b (n + k) env st = whN c b n env st
  | 0 => rfl
  | k + 1 => by
    have ih := whN_ge h k
    rw [← Nat.add_assoc, whN_more (n + k) env st (by rw [ih]; exact h), ih]
theorem sWhile_of {c : Env → M Bool} {b : SM} {n : Nat} {env : Env} {st : Sto} (h : whN c b n env st ≠ .bad) : sWhile c b env st = whN c b n env st := by
  unfold sWhile
  have hx : ∃ n, whN c b n env st ≠ .bad := ⟨n, h⟩
  rw [dif_pos hx]
  have h2 := Classical.choose_spec hx
  have a := whN_ge h (Classical.choose hx)
  have b' := whN_ge h2 n
  rw [Nat.add_comm] at b'
  exact b'.symm.trans a
theorem wp_whN {c : Env → M Bool} {b : SM} (J : Env → Sto → Prop) (μ : Env → Sto → Nat) (Q : Fl × Env → Sto → Prop)
    (step : ∀ env st, J env st → Wp (c env) st fun t st1 => if t then Wp (b env) st1 (TurnQ (fun e s => J e s ∧ μ e s < μ env st) Q) else Q (.nx, env) st1) :
    ∀ (n : Nat) (env : Env) (st : Sto), J env st → μ env st < n → Wp (whN c b n env) st Q
  | 0, env, st, _, h => absurd h (Nat.not_lt_zero _)
  | n + 1, env, st, hJ, h => by
    obtain ⟨t, st1, e1, q1⟩ := step env st hJ
    show Wp (c env >>= fun t => if t then (b env >>= fun r => match r.1 with
      | .nx => whN c b n r.2
      | .cnt => whN c b n r.2
      | .brk => pure (.nx, r.2)
      | .ret _ => pure r) else pure (.nx, env)) st Q
    refine Wp.step e1 ?_
    cases t with
    | false => exact Wp.pure q1
    | true =>
      obtain ⟨⟨fl, env2⟩, st2, e2, q2⟩ := (show Wp (b env) st1 (TurnQ (fun e s => J e s ∧ μ e s < μ env st) Q) from q1)
      refine Wp.step e2 ?_
      cases fl with
      | nx => exact wp_whN J μ Q step n env2 st2 q2.1 (Nat.lt_of_lt_of_le q2.2 (Nat.le_of_lt_succ h))
      | cnt => exact wp_whN J μ Q step n env2 st2 q2.1 (Nat.lt_of_lt_of_le q2.2 (Nat.le_of_lt_succ h))
      | brk => exact Wp.pure q2
      | ret v => exact Wp.pure q2
theorem wp_while {c : Env → M Bool} {b : SM} (J : Env → Sto → Prop) (μ : Env → Sto → Nat) (Q : Fl × Env → Sto → Prop) {env : Env} {st : Sto} (h0 : J env st)
    (step : ∀ env st, J env st → Wp (c env) st fun t st1 => if t then Wp (b env) st1 (TurnQ (fun e s => J e s ∧ μ e s < μ env st) Q) else Q (.nx, env) st1) : Wp (sWhile c b env) st Q := by
  obtain ⟨a, st', e, q⟩ := wp_whN J μ Q step (μ env st + 1) env st h0 (Nat.lt_succ_self _)
  exact ⟨a, st', (sWhile_of (by rw [e]; exact fun z => nomatch z)).trans e, q⟩

/-! ### statements -/
/-- a statement, then the rest -/
theorem wp_seq {a b : SM} {env : Env} {st : Sto} {Q : Fl × Env → Sto → Prop} (h : Wp (a env) st fun r st' => match r.1 with
    | .nx => Wp (b r.2) st' Q
    | _ => Q r st') : Wp (sSeq a b env) st Q := by
  obtain ⟨⟨fl, env1⟩, st1, e, q⟩ := h
  unfold sSeq
  refine Wp.step e ?_
  cases fl with
  | nx => exact q
  | brk => exact Wp.pure q
  | cnt => exact Wp.pure q
  | ret v => exact Wp.pure q
/-- a statement that stores and goes on -/
theorem wp_seq1 {a b : SM} {env env1 : Env} {st st1 : Sto} {Q : Fl × Env → Sto → Prop} (e : a env st = .ok (.nx, env1) st1) (h : Wp (b env1) st1 Q) : Wp (sSeq a b env) st Q := wp_seq ⟨_, _, e, h⟩
theorem wp_run {n : Nat} {b : SM} {ds : List D} {st : Sto} {Q : D → Sto → Prop} (h : Wp (b (ds.map some ++ List.replicate (n - ds.length) none)) st fun r st' => match r.1 with
    | .ret d => Q d st'
    | .nx => Q .non st'
    | _ => False) : Wp (runB n b ds) st Q := by
  obtain ⟨⟨fl, env1⟩, st1, e, q⟩ := h
  unfold runB
  refine Wp.step e ?_
  cases fl with
  | nx => exact Wp.pure q
  | ret v => exact Wp.pure q
  | brk => exact q.elim
  | cnt => exact q.elim
theorem set_ok {i : Nat} {a : Env → M D} {env : Env} {st st1 : Sto} {d : D} (e : a env st = .ok d st1) : sSet (.name i) a env st = .ok (.nx, env.set i (some d)) st1 := by
  unfold sSet
  exact (bind_ok e).trans rfl
theorem ret_ok {a : Env → M D} {env : Env} {st st1 : Sto} {d : D} (e : a env st = .ok d st1) : sRet a env st = .ok (.ret d, env) st1 := by
  unfold sRet
  rw [bind_ok e]
  rfl
theorem wp_ret {a : Env → M D} {env : Env} {st : Sto} {Q : Fl × Env → Sto → Prop} (h : Wp (a env) st fun d st' => Q (.ret d, env) st') : Wp (sRet a env) st Q := by
  obtain ⟨d, st1, e, q⟩ := h
  exact ⟨_, _, ret_ok e, q⟩
theorem wp_set {i : Nat} {a : Env → M D} {env : Env} {st : Sto} {Q : Fl × Env → Sto → Prop} (h : Wp (a env) st fun d st' => Q (.nx, env.set i (some d)) st') : Wp (sSet (.name i) a env) st Q := by
  obtain ⟨d, st1, e, q⟩ := h
  exact ⟨_, _, set_ok e, q⟩
theorem wp_if {t : Env → M Bool} {a b : SM} {env : Env} {st : Sto} {Q : Fl × Env → Sto → Prop} (h : Wp (t env) st fun c st' => if c then Wp (a env) st' Q else Wp (b env) st' Q) : Wp (sIf t a b env) st Q := by
  obtain ⟨c, st1, e, q⟩ := h
  unfold sIf
  refine Wp.step e ?_
  cases c <;> exact q
end Mir

namespace Mir
open PySem PySem.Spec PyProof.Rows L2

/-! ### one rule a construct -/
section
variable {env : Env} {st : Sto} {Q : D → Sto → Prop} {R : Bool → Sto → Prop} {a b c : Env → M D} {f g : D → D → M D} {ta tb : Env → M Bool} {d e : D} {mr : Env → M (List D)}
theorem wp_var {i : Nat} (h : env[i]? = some (some d)) (q : Q d st) : Wp (eVar i env) st Q := ⟨d, st, by simp only [eVar, h]; rfl, q⟩
theorem wp_c (q : Q d st) : Wp (eC d env) st Q := ⟨d, st, rfl, q⟩
theorem wp_op (h : Wp (a env) st fun x st1 => Wp (b env) st1 fun y st2 => Wp (f x y) st2 Q) : Wp (eOp f a b env) st Q := Wp.bind (h.mono fun _ _ q => Wp.bind q)
theorem wp_un {f : D → M D} (h : Wp (a env) st fun x st1 => Wp (f x) st1 Q) : Wp (eUn f a env) st Q := Wp.bind h
theorem wp_and (h : Wp (a env) st fun x st1 => ∃ k, x = .bl k ∧ if k then Wp (b env) st1 Q else Q (.bl false) st1) : Wp (eAnd a b env) st Q := Wp.bind (h.mono fun x st1 ⟨k, e, q⟩ => by
  subst e
  refine Wp.step (a := k) rfl ?_
  cases k with
  | true => exact q
  | false => exact Wp.pure q)
theorem wp_or (h : Wp (a env) st fun x st1 => ∃ k, x = .bl k ∧ if k then Q (.bl true) st1 else Wp (b env) st1 Q) : Wp (eOr a b env) st Q := Wp.bind (h.mono fun x st1 ⟨k, e, q⟩ => by
  subst e
  refine Wp.step (a := k) rfl ?_
  cases k with
  | true => exact Wp.pure q
  | false => exact q)
theorem wp_not (h : Wp (a env) st fun x st1 => ∃ k, x = .bl k ∧ Q (.bl (!k)) st1) : Wp (eNot a env) st Q := Wp.bind (h.mono fun x st1 ⟨k, e, q⟩ => by
  subst e
  exact Wp.step (a := k) rfl (Wp.pure q))
theorem wp_tst (h : Wp (a env) st fun x st1 => ∃ k, x = .bl k ∧ R k st1) : Wp (tst a env) st R := Wp.bind (h.mono fun x st1 ⟨k, e, q⟩ => by
  subst e
  exact ⟨k, st1, rfl, q⟩)
theorem wp_tand (h : Wp (ta env) st fun k st1 => if k then Wp (tb env) st1 R else R false st1) : Wp (tAndM ta tb env) st R := Wp.bind (h.mono fun k st1 q => by
  cases k with
  | true => exact q
  | false => exact Wp.pure q)
theorem wp_tor (h : Wp (ta env) st fun k st1 => if k then R true st1 else Wp (tb env) st1 R) : Wp (tOrM ta tb env) st R := Wp.bind (h.mono fun k st1 q => by
  cases k with
  | true => exact Wp.pure q
  | false => exact q)
theorem wp_tnot (h : Wp (ta env) st fun k st1 => R (!k) st1) : Wp (tNotM ta env) st R := Wp.bind (h.mono fun k st1 q => Wp.pure q)
theorem wp_ife (h : Wp (ta env) st fun k st1 => if k then Wp (a env) st1 Q else Wp (b env) st1 Q) : Wp (eIf ta a b env) st Q := Wp.bind (h.mono fun k st1 q => by cases k <;> exact q)
theorem wp_chain (h : Wp (a env) st fun x st1 => Wp (b env) st1 fun y st2 => Wp (f x y) st2 fun z st3 => ∃ k, z = .bl k ∧ if k then Wp (c env) st3 fun u st4 => Wp (g y u) st4 Q else Q (.bl false) st3) : Wp (eChain f g a b c env) st Q :=
  Wp.bind (h.mono fun x st1 q => Wp.bind (q.mono fun y st2 q => Wp.bind (q.mono fun z st3 ⟨k, e, q⟩ => by
    subst e
    refine Wp.step (a := k) rfl ?_
    cases k with
    | true => exact Wp.bind q
    | false => exact Wp.pure q)))
theorem wa_nil {S : List D → Sto → Prop} (q : S [] st) : Wp (aNil env) st S := ⟨[], st, rfl, q⟩
theorem wa_cons {S : List D → Sto → Prop} (h : Wp (a env) st fun x st1 => Wp (mr env) st1 fun xs st2 => S (x :: xs) st2) : Wp (aCons a mr env) st S := Wp.bind (h.mono fun x st1 q => Wp.bind (q.mono fun xs st2 q => Wp.pure q))
theorem wp_tup (h : Wp (mr env) st fun xs st1 => xs.length ≤ 1000000 ∧ Q (.tup xs) st1) : Wp (eTup mr env) st Q := Wp.bind (h.mono fun xs st1 q => ⟨_, _, okIf_true (szOk_of q.1), q.2⟩)
theorem wp_lst (h : Wp (mr env) st fun xs st1 => xs.length ≤ 1000000 ∧ Q (.lst xs) st1) : Wp (eLst mr env) st Q := Wp.bind (h.mono fun xs st1 q => ⟨_, _, okIf_true (szOk_of q.1), q.2⟩)
theorem wp_new (h : Wp (mr env) st fun xs st1 => xs.length ≤ 1000000 ∧ Q (.obj st1.length) (st1 ++ [.lst xs])) : Wp (eNew mr env) st Q := Wp.bind (h.mono fun xs st1 q => ⟨_, _, by simp only [szOk_of q.1, if_true, allocD], q.2⟩)
theorem wp_fn {f : List D → M D} (h : Wp (mr env) st fun xs st1 => Wp (f xs) st1 Q) : Wp (eFn f mr env) st Q := Wp.bind h
theorem wp_fn1 {f : D → M D} (h : Wp (f d) st Q) : Wp (fn1 f [d]) st Q := h
theorem wp_fn2 {f : D → D → M D} (h : Wp (f d e) st Q) : Wp (fn2 f [d, e]) st Q := h
theorem wp_call {n : Nat} {m : List D → M D} (h : Wp (mr env) st fun xs st1 => xs.length = n ∧ Wp (m xs) st1 Q) : Wp (eCall n m [] mr env) st Q := Wp.bind (h.mono fun xs st1 q => by
  obtain ⟨y, st2, e, w⟩ := q.2
  refine ⟨y, st2, ?_, w⟩
  rw [List.append_nil, if_pos q.1]
  exact e)
theorem wp_addI {i j : Int} (q : Q (.int (i + j)) st) : Wp (addD (.int i) (.int j)) st Q := ⟨_, _, rfl, q⟩
theorem wp_subI {i j : Int} (q : Q (.int (i - j)) st) : Wp (subD (.int i) (.int j)) st Q := ⟨_, _, rfl, q⟩
theorem wp_mulI {i j : Int} (h : i.natAbs.log2 + j.natAbs.log2 < 134217000) (q : Q (.int (i * j)) st) : Wp (mulD (.int i) (.int j)) st Q := ⟨_, _, okIf_true (decide_eq_true h), q⟩
theorem wp_modI {i j : Int} (h : j ≠ 0) (q : Q (.int (i.fmod j)) st) : Wp (modD (.int i) (.int j)) st Q := ⟨_, _, okIf_true (decide_eq_true h), q⟩
theorem wp_divI {i j : Int} (h : j ≠ 0) (h2 : j.natAbs.log2 < 9000) (q : Q (.int (i.fdiv j)) st) : Wp (fdivD (.int i) (.int j)) st Q := ⟨_, _, okIf_true (decide_eq_true ⟨h, h2⟩), q⟩
theorem wp_powI {i j : Int} (h : 0 ≤ j ∧ j ≤ 1000000 ∧ i.natAbs < 2 ^ 64) (q : Q (.int (i ^ j.toNat)) st) : Wp (powD (.int i) (.int j)) st Q := ⟨_, _, okIf_true (decide_eq_true h), q⟩
theorem wp_negI {i : Int} (q : Q (.int (-i)) st) : Wp (negD (.int i)) st Q := ⟨_, _, rfl, q⟩
theorem wp_ltI {i j : Int} (q : Q (.bl (decide (i < j))) st) : Wp (ltD (.int i) (.int j)) st Q := ⟨_, _, rfl, q⟩
theorem wp_leI {i j : Int} (q : Q (.bl (decide (i ≤ j))) st) : Wp (leD (.int i) (.int j)) st Q := ⟨_, _, rfl, q⟩
theorem wp_gtI {i j : Int} (q : Q (.bl (decide (j < i))) st) : Wp (gtD (.int i) (.int j)) st Q := ⟨_, _, rfl, q⟩
theorem wp_geI {i j : Int} (q : Q (.bl (decide (j ≤ i))) st) : Wp (geD (.int i) (.int j)) st Q := ⟨_, _, rfl, q⟩
/-- a truth that must be one -/
theorem ex_bl {k : Bool} {P : Bool → Prop} (h : P k) : ∃ k', D.bl k = .bl k' ∧ P k' := ⟨k, rfl, h⟩
theorem if_bl {p : Prop} [Decidable p] {A B : Prop} (h1 : p → A) (h2 : ¬ p → B) : if decide p = true then A else B := by
  by_cases h : p
  · rw [if_pos (decide_eq_true h)]; exact h1 h
  · rw [if_neg (by simpa using h)]; exact h2 h
theorem if_tt {A B : Prop} (h : A) : if true = true then A else B := h
theorem if_ff {A B : Prop} (h : B) : if false = true then A else B := h
/-- the n-th item -/
theorem wp_ixL {xs : List D} {i : Int} (hs : seqOf st d = some xs) (h : atI xs i = some e) (q : Q e st) : Wp (ixD d (.int i)) st Q := ⟨e, st, by simp only [ixD, hs, h], q⟩
theorem wp_len {xs : List D} (hs : seqOf st d = some xs) (q : Q (.int xs.length) st) : Wp (lenD d) st Q := ⟨_, st, by simp only [lenD, hs], q⟩
theorem wp_isi {T t : String} (ht : tyD st d = some t) (hk : kitOk t T = true) (q : Q (.bl (subT t T)) st) : Wp (isiD [T] d) st Q := ⟨_, st, by simp only [isiD, ht, List.all_cons, List.all_nil, Bool.and_true, List.any_cons, List.any_nil, Bool.or_false]; exact okIf_true hk, q⟩
end

/-! ### equality -/
theorem eqD_int (neg : Bool) (i j : Int) (st : Sto) : eqD neg (.int i) (.int j) st = .ok (.bl (if neg then !(i == j) else (i == j))) st := by
  simp only [eqD, resolve, toPy, PyData.eqv]
  exact okIf_true rfl
theorem wp_eqI {neg : Bool} {i j : Int} {st : Sto} {Q : D → Sto → Prop} (q : Q (.bl (if neg then !(i == j) else (i == j))) st) : Wp (eqD neg (.int i) (.int j)) st Q := ⟨_, _, eqD_int neg i j st, q⟩

/-! ### draws -/
/-- the stream at a, its cells at b, at most k draws so far -/
def Strm (a b k : Nat) (st : Sto) : Prop := ∃ (ns : List Int) (x c r : Int), st[a]? = some (.lst [.obj b, .int x, .int c, .int r]) ∧ st[b]? = some (.lst (ns.map .int)) ∧ 0 ≤ x ∧ 0 ≤ c ∧ c ≤ k ∧ 0 ≤ r ∧ r < 2147483647 ∧ a ≠ b
theorem setD_lst {n : Nat} {xs : List D} {k : Int} {j : Nat} {v : D} {st : Sto} (h : st[n]? = some (.lst xs)) (hj : ixN xs.length k = some j) : setD (.obj n) (.int k) v st = .ok () (st.set n (.lst (xs.set j v))) := by
  simp only [setD, h, hj]
theorem wp_setI {a o i : Env → M D} {env : Env} {st : Sto} {Q : Fl × Env → Sto → Prop} (h : Wp (a env) st fun v st1 => Wp (o env) st1 fun ov st2 => Wp (i env) st2 fun iv st3 => Wp (setD ov iv v) st3 fun _ st4 => Q (.nx, env) st4) : Wp (sSetI a o i env) st Q :=
  Wp.bind (h.mono fun v st1 q => Wp.bind (q.mono fun ov st2 q => Wp.bind (q.mono fun iv st3 q => Wp.bind (q.mono fun _ st4 q => Wp.pure q))))
theorem wp_setD {n : Nat} {xs : List D} {k : Int} {j : Nat} {v : D} {st : Sto} {Q : Unit → Sto → Prop} (h : st[n]? = some (.lst xs)) (hj : ixN xs.length k = some j) (q : Q () (st.set n (.lst (xs.set j v)))) : Wp (setD (.obj n) (.int k) v) st Q := ⟨(), _, setD_lst h hj, q⟩
end Mir

namespace Mir
open PySem PySem.Spec PyProof.Rows L2

/-! ### == on plain data -/
mutual
/-- plain data, at most n levels deep -/
def plD : Nat → D → Bool
  | _, .non => true
  | _, .bl _ => true
  | _, .int _ => true
  | n + 1, .tup xs => plDs n xs
  | n + 1, .lst xs => plDs n xs
  | _, _ => false
def plDs : Nat → List D → Bool
  | _, [] => true
  | n, x :: xs => plD n x && plDs n xs
end
mutual
def dEq : D → D → Bool
  | .non, .non => true
  | .bl a, .bl b => a == b
  | .bl a, .int j => (if a then 1 else 0) == j
  | .int i, .bl b => i == (if b then 1 else 0)
  | .int i, .int j => i == j
  | .tup xs, .tup ys => dEqs xs ys
  | .lst xs, .lst ys => dEqs xs ys
  | _, _ => false
def dEqs : List D → List D → Bool
  | [], [] => true
  | x :: xs, y :: ys => dEq x y && dEqs xs ys
  | _, _ => false
end
mutual
theorem plD_py : ∀ (n : Nat) (d : D), plD n d = true → ∃ p, toPy d = some p ∧ p.canLay0 = true ∧ p.depth ≤ n + 1
  | _, .non, _ => ⟨_, rfl, rfl, by simp [PyData.depth]⟩
  | _, .bl _, _ => ⟨_, rfl, rfl, by simp [PyData.depth]⟩
  | _, .int _, _ => ⟨_, rfl, rfl, by simp [PyData.depth]⟩
  | 0, .tup _, h => by simp [plD] at h
  | 0, .lst _, h => by simp [plD] at h
  | n + 1, .tup xs, h => by
    obtain ⟨ps, e, l, d⟩ := plDs_py n xs (by simpa [plD] using h)
    exact ⟨.tuple ps, by simp only [toPy, e, Option.map_some], by simpa [PyData.canLay0] using l, by simp only [PyData.depth]; omega⟩
  | n + 1, .lst xs, h => by
    obtain ⟨ps, e, l, d⟩ := plDs_py n xs (by simpa [plD] using h)
    exact ⟨.list ps, by simp only [toPy, e, Option.map_some], by simpa [PyData.canLay0] using l, by simp only [PyData.depth]; omega⟩
  | _, .str _, h => by simp [plD] at h
  | _, .obj _, h => by simp [plD] at h
  | _, .scr _, h => by simp [plD] at h
theorem plDs_py : ∀ (n : Nat) (ds : List D), plDs n ds = true → ∃ ps, toPys ds = some ps ∧ PyData.canLayAll0 ps = true ∧ PyData.depthAll ps ≤ n + 1
  | n, [], _ => ⟨[], rfl, rfl, by simp [PyData.depthAll]⟩
  | n, x :: xs, h => by
    have h' : plD n x = true ∧ plDs n xs = true := by simpa [plDs] using h
    obtain ⟨p, e1, l1, d1⟩ := plD_py n x h'.1
    obtain ⟨ps, e2, l2, d2⟩ := plDs_py n xs h'.2
    exact ⟨p :: ps, by simp only [toPys, e1, e2], by simp only [PyData.canLayAll0, l1, l2, Bool.and_self], by simp only [PyData.depthAll]; omega⟩
end
mutual
theorem dEq_py : ∀ (a b : D) (p q : PyData) (n m : Nat), plD n a = true → plD m b = true → toPy a = some p → toPy b = some q → PyData.eqv p q = dEq a b
  | a, b, p, q, n, m, ha, hb, e1, e2 => by
    cases a with
    | str => simp [plD] at ha
    | obj => simp [plD] at ha
    | scr => simp [plD] at ha
    | tup xs =>
      cases n with
      | zero => simp [plD] at ha
      | succ n =>
        simp only [toPy] at e1
        cases ex : toPys xs with
        | none => rw [ex] at e1; cases e1
        | some ps =>
          rw [ex] at e1; cases e1
          cases b with
          | str => simp [plD] at hb
          | obj => simp [plD] at hb
          | scr => simp [plD] at hb
          | tup ys =>
            cases m with
            | zero => simp [plD] at hb
            | succ m =>
              simp only [toPy] at e2
              cases ey : toPys ys with
              | none => rw [ey] at e2; cases e2
              | some qs =>
                rw [ey] at e2; cases e2
                simp only [PyData.eqv, dEq]
                exact dEqs_py xs ys ps qs n m (by simpa [plD] using ha) (by simpa [plD] using hb) ex ey
          | lst ys =>
            simp only [toPy] at e2
            cases ey : toPys ys with
            | none => rw [ey] at e2; cases e2
            | some qs => rw [ey] at e2; cases e2; rfl
          | _ => cases e2; rfl
    | lst xs =>
      cases n with
      | zero => simp [plD] at ha
      | succ n =>
        simp only [toPy] at e1
        cases ex : toPys xs with
        | none => rw [ex] at e1; cases e1
        | some ps =>
          rw [ex] at e1; cases e1
          cases b with
          | str => simp [plD] at hb
          | obj => simp [plD] at hb
          | scr => simp [plD] at hb
          | lst ys =>
            cases m with
            | zero => simp [plD] at hb
            | succ m =>
              simp only [toPy] at e2
              cases ey : toPys ys with
              | none => rw [ey] at e2; cases e2
              | some qs =>
                rw [ey] at e2; cases e2
                simp only [PyData.eqv, dEq]
                exact dEqs_py xs ys ps qs n m (by simpa [plD] using ha) (by simpa [plD] using hb) ex ey
          | tup ys =>
            simp only [toPy] at e2
            cases ey : toPys ys with
            | none => rw [ey] at e2; cases e2
            | some qs => rw [ey] at e2; cases e2; rfl
          | _ => cases e2; rfl
    | _ =>
      cases e1
      cases b with
      | str => simp [plD] at hb
      | obj => simp [plD] at hb
      | scr => simp [plD] at hb
      | tup ys =>
        simp only [toPy] at e2
        cases ey : toPys ys with
        | none => rw [ey] at e2; cases e2
        | some qs => rw [ey] at e2; cases e2; rfl
      | lst ys =>
        simp only [toPy] at e2
        cases ey : toPys ys with
        | none => rw [ey] at e2; cases e2
        | some qs => rw [ey] at e2; cases e2; rfl
      | _ => cases e2; rfl
theorem dEqs_py : ∀ (a b : List D) (p q : List PyData) (n m : Nat), plDs n a = true → plDs m b = true → toPys a = some p → toPys b = some q → PyData.eqvAll p q = dEqs a b
  | [], [], _, _, _, _, _, _, e1, e2 => by cases e1; cases e2; rfl
  | [], y :: ys, _, q, _, m, _, hb, e1, e2 => by
    cases e1
    cases q with
    | nil =>
      simp only [toPys] at e2
      split at e2 <;> cases e2
    | cons => rfl
  | x :: xs, [], p, _, _, _, _, _, e1, e2 => by
    cases e2
    cases p with
    | nil =>
      simp only [toPys] at e1
      split at e1 <;> cases e1
    | cons => rfl
  | x :: xs, y :: ys, p, q, n, m, ha, hb, e1, e2 => by
    have ha' : plD n x = true ∧ plDs n xs = true := by simpa [plDs] using ha
    have hb' : plD m y = true ∧ plDs m ys = true := by simpa [plDs] using hb
    simp only [toPys] at e1 e2
    split at e1
    · rename_i p1 ps h1 h2
      cases e1
      split at e2
      · rename_i q1 qs h3 h4
        cases e2
        simp only [PyData.eqvAll, dEqs]
        rw [dEq_py x y p1 q1 n m ha'.1 hb'.1 h1 h3, dEqs_py xs ys ps qs n m ha'.2 hb'.2 h2 h4]
      · cases e2
    · cases e1
end
theorem wp_eq {neg : Bool} {a b a' b' : D} {n m : Nat} {st : Sto} {Q : D → Sto → Prop} (ea : resolve st a = a') (eb : resolve st b = b') (ha : plD n a' = true) (hb : plD m b' = true) (hn : n ≤ 60) (hm : m ≤ 60)
    (q : Q (.bl (if neg then !dEq a' b' else dEq a' b')) st) : Wp (eqD neg a b) st Q := by
  obtain ⟨p, e1, l1, d1⟩ := plD_py n a' ha
  obtain ⟨r, e2, l2, d2⟩ := plD_py m b' hb
  refine ⟨_, st, ?_, q⟩
  simp only [eqD, ea, eb, e1, e2, dEq_py a' b' p r n m ha hb e1 e2]
  exact okIf_true (Bool.and_eq_true_iff.mpr ⟨Bool.and_eq_true_iff.mpr ⟨l1, decide_eq_true (by omega)⟩, Bool.and_eq_true_iff.mpr ⟨l2, decide_eq_true (by omega)⟩⟩)
theorem plDs_all {n : Nat} : ∀ {ds : List D}, (∀ d ∈ ds, plD n d = true) → plDs n ds = true
  | [], _ => by simp [plDs]
  | d :: ds, h => by simp only [plDs, h d (by simp), plDs_all (ds := ds) (fun e he => h e (List.mem_cons_of_mem _ he)), Bool.and_self]
theorem plDs_ints (n : Nat) (ns : List Int) : plDs n (ns.map .int) = true := plDs_all fun d h => by
  obtain ⟨i, _, rfl⟩ := List.mem_map.mp h
  cases n <;> simp [plD]


end Mir

namespace Mir
open PySem PySem.Spec PyProof.Rows L2

/-! ### statements by their four ends -/
def Ws (b : SM) (env : Env) (st : Sto) (N : Env → Sto → Prop) (R : D → Sto → Prop) (B C : Env → Sto → Prop) : Prop := Wp (b env) st fun r st' => match r.1 with
  | .nx => N r.2 st'
  | .brk => B r.2 st'
  | .cnt => C r.2 st'
  | .ret d => R d st'
section
variable {a b : SM} {env : Env} {st : Sto} {N B C : Env → Sto → Prop} {R : D → Sto → Prop} {e o i : Env → M D} {t : Env → M Bool}
theorem ws_seq (h : Ws a env st (fun env1 st1 => Ws b env1 st1 N R B C) R B C) : Ws (sSeq a b) env st N R B C := by
  refine wp_seq (Wp.mono h ?_)
  rintro ⟨fl, env1⟩ st1 q
  cases fl <;> exact q
theorem ws_mono {N' B' C' : Env → Sto → Prop} {R' : D → Sto → Prop} (h : Ws a env st N R B C) (hN : ∀ e s, N e s → N' e s) (hR : ∀ e s, R e s → R' e s) (hB : ∀ e s, B e s → B' e s) (hC : ∀ e s, C e s → C' e s) : Ws a env st N' R' B' C' := by
  refine Wp.mono h ?_
  rintro ⟨fl, env1⟩ st1 q
  cases fl
  · exact hN _ _ q
  · exact hB _ _ q
  · exact hC _ _ q
  · exact hR _ _ q
theorem ws_nil (h : N env st) : Ws sNil env st N R B C := Wp.pure h
theorem ws_brk (h : B env st) : Ws sBrk env st N R B C := Wp.pure h
theorem ws_cnt (h : C env st) : Ws sCnt env st N R B C := Wp.pure h
theorem ws_retN (h : R .non st) : Ws sRetN env st N R B C := Wp.pure h
theorem ws_ret (h : Wp (e env) st R) : Ws (sRet e) env st N R B C := wp_ret h
theorem ws_set {i : Nat} (h : Wp (e env) st fun d st1 => N (env.set i (some d)) st1) : Ws (sSet (.name i) e) env st N R B C := wp_set h
theorem ws_setT {tg : Tg} (h : Wp (e env) st fun d st1 => ∃ env1, tgD tg d env = some env1 ∧ N env1 st1) : Ws (sSet tg e) env st N R B C := by
  obtain ⟨d, st1, e1, env1, e2, q⟩ := h
  refine ⟨(.nx, env1), st1, ?_, q⟩
  unfold sSet
  exact (bind_ok e1).trans (by simp only [e2])
theorem ws_if (h : Wp (t env) st fun c st1 => if c then Ws a env st1 N R B C else Ws b env st1 N R B C) : Ws (sIf t a b) env st N R B C := wp_if h
theorem ws_expr (h : Wp (e env) st fun _ st1 => N env st1) : Ws (sExpr e) env st N R B C := Wp.bind (h.mono fun _ _ q => Wp.pure q)
theorem ws_par {j k : Nat} (h : Wp (e env) st fun x st1 => Wp (o env) st1 fun y st2 => N ((env.set j (some x)).set k (some y)) st2) : Ws (sPar j k e o) env st N R B C := Wp.bind (h.mono fun _ _ q => Wp.bind (q.mono fun _ _ q => Wp.pure q))
theorem ws_setI (h : Wp (e env) st fun v st1 => Wp (o env) st1 fun ov st2 => Wp (i env) st2 fun iv st3 => Wp (setD ov iv v) st3 fun _ st4 => N env st4) : Ws (sSetI e o i) env st N R B C := wp_setI h
theorem ws_run {n : Nat} {ds : List D} {Q : D → Sto → Prop} (h : Ws b (ds.map some ++ List.replicate (n - ds.length) none) st (fun _ => Q .non) Q (fun _ _ => False) (fun _ _ => False)) : Wp (runB n b ds) st Q := by
  refine wp_run (Wp.mono h ?_)
  rintro ⟨fl, env1⟩ st1 q
  cases fl <;> exact q
/-- a source known: its items, its word of the store -/
theorem ws_for {mi : Env → M Src} {tg : Tg} (src : Src) (J : Nat → Env → Sto → Prop) (hs : Wp (mi env) st fun s st1 => s = src ∧ J 0 env st1) (hck : ∀ i env st, J i env st → src.2 st)
    (step : ∀ i d env st, src.1[i]? = some d → J i env st → ∃ env1, tgD tg d env = some env1 ∧ Ws b env1 st (J (i + 1)) R N (J (i + 1)))
    (fin : ∀ env st, J src.1.length env st → N env st) : Ws (sFor mi tg b) env st N R B C := by
  obtain ⟨s, st1, e1, rfl, h0⟩ := hs
  refine wp_for e1 J _ h0 hck (fun i d env st hd hJ => ?_) fin
  obtain ⟨env1, e2, h⟩ := step i d env st hd hJ
  refine ⟨env1, e2, Wp.mono h ?_⟩
  rintro ⟨fl, env2⟩ st2 q
  cases fl <;> exact q
theorem ws_while (J : Env → Sto → Prop) (μ : Env → Sto → Nat) (h0 : J env st)
    (step : ∀ env st, J env st → Wp (t env) st fun c st1 => if c then Ws b env st1 (fun e s => J e s ∧ μ e s < μ env st) R N (fun e s => J e s ∧ μ e s < μ env st) else N env st1) : Ws (sWhile t b) env st N R B C := by
  refine wp_while J μ _ h0 fun env st hJ => (step env st hJ).mono fun c st1 q => ?_
  cases c with
  | false => exact q
  | true =>
    refine Wp.mono (show Ws b env st1 (fun e s => J e s ∧ μ e s < μ env st) R N (fun e s => J e s ∧ μ e s < μ env st) from q) ?_
    rintro ⟨fl, env2⟩ st2 q
    cases fl <;> exact q
end
theorem wi_seq {a : Env → M D} {env : Env} {st : Sto} {Q : Src → Sto → Prop} (h : Wp (a env) st fun d st1 => ∃ xs, seqOf st1 d = some xs ∧ Q (xs, fun st' => seqOf st' d = some xs) st1) : Wp (itSeq a env) st Q := Wp.bind (h.mono fun d st1 ⟨xs, e, q⟩ => ⟨_, _, by simp only [seqSrc, e], q⟩)
theorem wi_enum {a : Env → M D} {env : Env} {st : Sto} {Q : Src → Sto → Prop} (h : Wp (a env) st fun d st1 => ∃ xs, seqOf st1 d = some xs ∧ Q (enumL xs, fun st' => seqOf st' d = some xs) st1) : Wp (itEnum a env) st Q := Wp.bind (h.mono fun d st1 ⟨xs, e, q⟩ => ⟨_, _, by simp only [enumSrc, e], q⟩)
theorem wi_rng1 {a : Env → M D} {env : Env} {st : Sto} {Q : Src → Sto → Prop} (h : Wp (a env) st fun d st1 => ∃ n : Int, d = .int n ∧ -(2 ^ 62) ≤ n ∧ n < 2 ^ 62 ∧ Q (rngL 0 n, fun _ => True) st1) : Wp (itR1 a env) st Q := Wp.bind (h.mono fun d st1 ⟨n, e, h1, h2, q⟩ => by
  subst e
  exact ⟨_, _, by simp only [rng1D, rngOk, h1, h2, and_self, decide_true, if_true], q⟩)
theorem wi_rng2 {a b : Env → M D} {env : Env} {st : Sto} {Q : Src → Sto → Prop} (h : Wp (a env) st fun d st1 => Wp (b env) st1 fun e st2 => ∃ m n : Int, d = .int m ∧ e = .int n ∧ (-(2 ^ 62) ≤ m ∧ m < 2 ^ 62) ∧ (-(2 ^ 62) ≤ n ∧ n < 2 ^ 62) ∧ Q (rngL m n, fun _ => True) st2) : Wp (itR2 a b env) st Q :=
  Wp.bind (h.mono fun d st1 q => Wp.bind (q.mono fun e st2 ⟨m, n, e1, e2, h1, h2, q2⟩ => ⟨_, _, by
    subst e1
    subst e2
    simp only [rng2D, rngOk, h1, h2, and_self, decide_true, if_true, Bool.and_self], q2⟩))
theorem rngL_get {lo hi : Int} {i : Nat} {d : D} (h : (rngL lo hi)[i]? = some d) : d = .int (lo + i) ∧ lo + i < hi := by
  unfold rngL at h
  rw [List.getElem?_map] at h
  cases e : (List.range (hi - lo).toNat)[i]? with
  | none => rw [e] at h; cases h
  | some j =>
    rw [e] at h
    cases h
    have l := (List.getElem?_eq_some_iff.mp e).1
    rw [List.length_range] at l
    rw [List.getElem?_range l] at e
    cases e
    exact ⟨rfl, by omega⟩
theorem rngL_len (lo hi : Int) : (rngL lo hi).length = (hi - lo).toNat := by unfold rngL; rw [List.length_map, List.length_range]
/-- a list's method -/
theorem wp_lm {f : D → List D → M D} {o : Env → M D} {mr : Env → M (List D)} {env : Env} {st : Sto} {Q : D → Sto → Prop} (h : Wp (o env) st fun d st1 => (lstOf st1 d).isSome ∧ Wp (mr env) st1 fun ds st2 => Wp (f d ds) st2 Q) : Wp (eLM f o mr env) st Q :=
  Wp.bind (h.mono fun d st1 ⟨h1, q⟩ => Wp.step (a := ()) (st' := st1) (by simp only [h1, if_true]) (Wp.bind q))
theorem wp_app {n : Nat} {y : D} {acc : List D} {st : Sto} {Q : D → Sto → Prop} (h : st[n]? = some (.lst acc)) (hz : acc.length + 1 ≤ 1000000) (q : Q .non (st.set n (.lst (acc ++ [y])))) : Wp (fn1 (appD (.obj n)) [y]) st Q := Wp.step (appO_ok h hz) (Wp.pure q)
theorem wp_pop0 {n : Nat} {y : D} {ys : List D} {st : Sto} {Q : D → Sto → Prop} (h : st[n]? = some (.lst (y :: ys))) (q : Q y (st.set n (.lst ys))) : Wp (fn1 (popD (.obj n)) [.int 0]) st Q := ⟨_, _, by
  show popD (.obj n) (.int 0) st = _
  simp only [popD, h]
  have : ixN (y :: ys).length 0 = some 0 := by simp [ixN]
  simp only [this]
  rfl, q⟩
theorem wp_tst_b {ta : Env → M D} {env : Env} {st : Sto} {R : Bool → Sto → Prop} (h : Wp (ta env) st fun d st' => ∃ k, d = .bl k ∧ R k st') : Wp (tst ta env) st R := wp_tst h
theorem fmod_rng {i j : Int} (h : 0 < j) : 0 ≤ i.fmod j ∧ i.fmod j < j := ⟨Int.fmod_nonneg_of_pos _ h, Int.fmod_lt_of_pos _ h⟩
theorem log2_le {i : Int} {k : Nat} (h : i.natAbs < 2 ^ (k + 1)) : i.natAbs.log2 ≤ k := by
  rcases Nat.eq_zero_or_pos i.natAbs with z | z
  · rw [z]; exact Nat.zero_le _
  · have := (Nat.log2_lt (Nat.ne_of_gt z)).mpr h
    omega

theorem wp_eqF {i j : Int} {st : Sto} {Q : D → Sto → Prop} (q : Q (.bl (decide (i = j))) st) : Wp (eqD false (.int i) (.int j)) st Q := wp_eqI q
theorem wp_neF {i j : Int} {st : Sto} {Q : D → Sto → Prop} (q : Q (.bl (decide (i ≠ j))) st) : Wp (eqD true (.int i) (.int j)) st Q := wp_eqI (by
  have : (!(i == j)) = decide (i ≠ j) := by
    by_cases h : i = j
    · simp [h]
    · simp [h]
  rw [if_pos rfl, this]
  exact q)
theorem wp_eqP {a b a' b' : D} {n m : Nat} {st : Sto} {Q : D → Sto → Prop} (ea : resolve st a = a') (eb : resolve st b = b') (ha : plD n a' = true) (hb : plD m b' = true) (hn : n ≤ 60) (hm : m ≤ 60)
    (q : Q (.bl (dEq a' b')) st) : Wp (eqD false a b) st Q := wp_eq ea eb ha hb hn hm q
theorem wp_neP {a b a' b' : D} {n m : Nat} {st : Sto} {Q : D → Sto → Prop} (ea : resolve st a = a') (eb : resolve st b = b') (ha : plD n a' = true) (hb : plD m b' = true) (hn : n ≤ 60) (hm : m ≤ 60)
    (q : Q (.bl (!dEq a' b')) st) : Wp (eqD true a b) st Q := wp_eq ea eb ha hb hn hm q
local macro_rules | `(tactic| walk_at "wp") => `(tactic| repeat (first
  | with_reducible refine ws_seq ?_
  | with_reducible refine ws_set ?_
  | with_reducible refine ws_ret ?_
  | with_reducible refine ws_if ?_
  | with_reducible refine ws_setI ?_
  | with_reducible refine ws_expr ?_
  | with_reducible refine ws_nil ?_
  | with_reducible refine wp_var (by with_unfolding_all rfl) ?_
  | with_reducible refine wp_c ?_
  | with_reducible refine wp_op ?_
  | with_reducible refine wp_un ?_
  | with_reducible refine wp_and ?_
  | with_reducible refine wp_or ?_
  | with_reducible refine wp_not ?_
  | with_reducible refine wp_tst ?_
  | with_reducible refine wp_tand ?_
  | with_reducible refine wp_tor ?_
  | with_reducible refine wp_tnot ?_
  | with_reducible refine wp_chain ?_
  | with_reducible refine wp_ife ?_
  | with_reducible refine wa_nil ?_
  | with_reducible refine wa_cons ?_
  | with_reducible refine wp_lst ?_
  | with_reducible refine wp_tup ?_
  | with_reducible refine wp_new ?_
  | with_reducible refine wp_fn ?_
  | with_reducible refine wp_call ?_
  | with_reducible refine wp_lm ?_
  | with_reducible refine wp_addI ?_
  | with_reducible refine wp_subI ?_
  | with_reducible refine wp_negI ?_
  | with_reducible refine wp_gtI ?_
  | with_reducible refine wp_ltI ?_
  | with_reducible refine wp_geI ?_
  | with_reducible refine wp_leI ?_
  | with_reducible refine wp_eqF ?_
  | with_reducible refine wp_neF ?_
  | with_reducible refine ex_bl ?_
  | (with_reducible refine if_tt ?_)
  | (with_reducible refine if_ff ?_)))
/-! ### the draw -/
noncomputable def b_draw : SM := (sSeq (sSetI (eOp addD (eOp ixD (eVar 0) (eC (.int 2))) (eC (.int 1))) (eVar 0) (eC (.int 2))) (sSeq (sIf (tAndM (tst (eOp (eqD false) (eOp ixD (eVar 0) (eC (.int 1))) (eC (.int 0)))) (tst (eOp (eqD true) (eOp ixD (eVar 0) (eC (.int 0))) (eLst aNil)))) (sSeq (sSetI (eLM (fun d ds => fn1 (popD d) ds) (eOp ixD (eVar 0) (eC (.int 0))) (aCons (eC (.int 0)) aNil)) (eVar 0) (eC (.int 1))) (sIf (tst (eOp ltD (eOp ixD (eVar 0) (eC (.int 1))) (eOp powD (eC (.int 10)) (eC (.int 18))))) (sSeq (sSetI (eOp modD (eOp addD (eOp mulD (eOp ixD (eVar 0) (eC (.int 3))) (eC (.int 39373))) (eOp ixD (eVar 0) (eC (.int 1)))) (eC (.int 2147483647))) (eVar 0) (eC (.int 3))) (sSetI (eC (.int 0)) (eVar 0) (eC (.int 1)))) sNil)) sNil) (sSeq (sIf (tst (eOp gtD (eOp ixD (eVar 0) (eC (.int 1))) (eC (.int 0)))) (sSeq (sSet (.name 2) (eOp modD (eOp ixD (eVar 0) (eC (.int 1))) (eVar 1))) (sSeq (sSetI (eOp fdivD (eOp ixD (eVar 0) (eC (.int 1))) (eVar 1)) (eVar 0) (eC (.int 1))) (sRet (eVar 2)))) sNil) (sSeq (sSet (.name 2) (eOp modD (eOp powD (eOp addD (eOp addD (eOp ixD (eVar 0) (eC (.int 3))) (eOp mulD (eC (.int 7919)) (eOp ixD (eVar 0) (eC (.int 2))))) (eC (.int 104729))) (eC (.int 5))) (eC (.int 2147483647)))) (sRet (eOp modD (eOp modD (eOp mulD (eOp addD (eVar 2) (eOp ixD (eVar 0) (eC (.int 2)))) (eC (.int 48271))) (eC (.int 2147483629))) (eVar 1)))))))
noncomputable def m_draw : List D → M D := runB 3 b_draw

/-- the stream's parts -/
def Stm (a b : Nat) (ns : List Int) (x c r : Int) (st : Sto) : Prop := st[a]? = some (.lst [.obj b, .int x, .int c, .int r]) ∧ st[b]? = some (.lst (ns.map .int)) ∧ a ≠ b
section
variable {a b k : Nat} {ns : List Int} {x c r v : Int} {st : Sto}
theorem Stm.ix (h : Stm a b ns x c r st) (j : Nat) (d : D) (hd : [D.obj b, .int x, .int c, .int r][j]? = some d) (i : Int) (hi : atI [D.obj b, .int x, .int c, .int r] i = some d) {Q : D → Sto → Prop} (q : Q d st) : Wp (ixD (.obj a) (.int i)) st Q :=
  wp_ixL (xs := [D.obj b, .int x, .int c, .int r]) (by simp only [seqOf, lstOf, h.1]) hi q
theorem Stm.w1 (h : Stm a b ns x c r st) : Stm a b ns v c r (st.set a (.lst [.obj b, .int v, .int c, .int r])) :=
  ⟨by rw [List.getElem?_set_self (List.getElem?_eq_some_iff.mp h.1).1], by rw [List.getElem?_set_ne h.2.2]; exact h.2.1, h.2.2⟩
theorem Stm.w2 (h : Stm a b ns x c r st) : Stm a b ns x v r (st.set a (.lst [.obj b, .int x, .int v, .int r])) :=
  ⟨by rw [List.getElem?_set_self (List.getElem?_eq_some_iff.mp h.1).1], by rw [List.getElem?_set_ne h.2.2]; exact h.2.1, h.2.2⟩
theorem Stm.w3 (h : Stm a b ns x c r st) : Stm a b ns x c v (st.set a (.lst [.obj b, .int x, .int c, .int v])) :=
  ⟨by rw [List.getElem?_set_self (List.getElem?_eq_some_iff.mp h.1).1], by rw [List.getElem?_set_ne h.2.2]; exact h.2.1, h.2.2⟩
theorem Stm.wb {ms : List Int} (h : Stm a b ns x c r st) : Stm a b ms x c r (st.set b (.lst (ms.map .int))) :=
  ⟨by rw [List.getElem?_set_ne (Ne.symm h.2.2)]; exact h.1, by rw [List.getElem?_set_self (List.getElem?_eq_some_iff.mp h.2.1).1], h.2.2⟩
end
theorem Kp.put {S : List Nat} {st st' : Sto} (h : Kp S st st') {n : Nat} (hn : n ∈ S) (o : O) : Kp S st (st'.set n o) := h.set (.inr hn) o

/-- the rest of the draw: no cell is left over -/
theorem draw_end {a b : Nat} {st : Sto} {n x c r : Int} {ns : List Int} {u : Option D} (h : Stm a b ns x c r st) (hx : 0 ≤ x) (hc : 0 ≤ c) (hc2 : c < 2 ^ 41) (hr : 0 ≤ r) (hr2 : r < 2147483647) (hn : 0 < n) (hl : n.natAbs.log2 < 9000)
    {N B C : Env → Sto → Prop} {R : D → Sto → Prop} (q : ∀ (i : Int) (x' : Int) (st' : Sto), 0 ≤ i → i < n → 0 ≤ x' → Stm a b ns x' c r st' → Kp [a, b] st st' → R (.int i) st') :
    Ws (sSeq (sIf (tst (eOp gtD (eOp ixD (eVar 0) (eC (.int 1))) (eC (.int 0)))) (sSeq (sSet (.name 2) (eOp modD (eOp ixD (eVar 0) (eC (.int 1))) (eVar 1))) (sSeq (sSetI (eOp fdivD (eOp ixD (eVar 0) (eC (.int 1))) (eVar 1)) (eVar 0) (eC (.int 1))) (sRet (eVar 2)))) sNil) (sSeq (sSet (.name 2) (eOp modD (eOp powD (eOp addD (eOp addD (eOp ixD (eVar 0) (eC (.int 3))) (eOp mulD (eC (.int 7919)) (eOp ixD (eVar 0) (eC (.int 2))))) (eC (.int 104729))) (eC (.int 5))) (eC (.int 2147483647)))) (sRet (eOp modD (eOp modD (eOp mulD (eOp addD (eVar 2) (eOp ixD (eVar 0) (eC (.int 2)))) (eC (.int 48271))) (eC (.int 2147483629))) (eVar 1))))) [some (.obj a), some (.int n), u] st N R B C := by
  walk_at "wp"
  refine h.ix 1 (.int x) rfl 1 rfl ?_
  walk_at "wp"
  refine if_bl (fun hx0 => ?_) fun hx0 => ?_
  · walk_at "wp"
    refine h.ix 1 (.int x) rfl 1 rfl ?_
    walk_at "wp"
    refine wp_modI (by omega) ?_
    walk_at "wp"
    refine h.ix 1 (.int x) rfl 1 rfl ?_
    walk_at "wp"
    refine wp_divI (by omega) hl ?_
    walk_at "wp"
    refine wp_setD h.1 (j := 1) rfl ?_
    walk_at "wp"
    exact q _ (x.fdiv n) _ (fmod_rng hn).1 (fmod_rng hn).2 (Int.fdiv_nonneg hx (by omega)) h.w1 ((Kp.refl _ _).put (by simp) _)
  · walk_at "wp"
    refine h.ix 3 (.int r) rfl 3 rfl ?_
    walk_at "wp"
    refine h.ix 2 (.int c) rfl 2 rfl (wp_mulI ?_ ?_)
    · exact Nat.lt_of_le_of_lt (Nat.add_le_add (Nat.le_refl _) (log2_le (k := 41) (by omega))) (by decide)
    walk_at "wp"
    refine wp_powI ?_ ?_
    · refine ⟨by decide, by decide, ?_⟩
      omega
    walk_at "wp"
    refine wp_modI (by decide) ?_
    walk_at "wp"
    refine h.ix 2 (.int c) rfl 2 rfl ?_
    walk_at "wp"
    refine wp_mulI ?_ (wp_c (wp_modI (by decide) (wp_var rfl (wp_modI (by omega) ?_))))
    · have := fmod_rng (i := (r + 7919 * c + 104729) ^ (5 : Int).toNat) (j := 2147483647) (by decide)
      refine Nat.lt_of_le_of_lt (Nat.add_le_add (log2_le (k := 42) (by omega)) (Nat.le_refl _)) (by decide)
    · exact q _ x _ (fmod_rng hn).1 (fmod_rng hn).2 hx h (Kp.refl _ _)
theorem draw_ok {a b k : Nat} {st : Sto} {n : Int} (h : Strm a b k st) (hk : k < 2 ^ 40) (hn : 0 < n) (hl : n.natAbs.log2 < 9000) :
    Wp (m_draw [.obj a, .int n]) st fun d st' => ∃ i : Int, d = .int i ∧ 0 ≤ i ∧ i < n ∧ Strm a b (k + 1) st' ∧ Kp [a, b] st st' := by
  obtain ⟨ns, x, c, r, h1, h2, hx, hc, hck, hr, hr2, hab⟩ := h
  have h : Stm a b ns x c r st := ⟨h1, h2, hab⟩
  refine ws_run ?_
  show Ws b_draw [some (.obj a), some (.int n), none] st _ _ _ _
  unfold b_draw
  refine ws_seq ?_
  walk_at "wp"
  refine h.ix 2 (.int c) rfl 2 rfl ?_
  walk_at "wp"
  refine wp_setD h.1 (j := 2) rfl ?_
  have g := h.w2 (v := c + 1)
  have k1 : Kp [a, b] st (st.set a (.lst [.obj b, .int x, .int (c + 1), .int r])) := (Kp.refl _ _).put (by simp) _
  show Ws _ _ (st.set a (.lst [.obj b, .int x, .int (c + 1), .int r])) _ _ _ _
  generalize st.set a (.lst [.obj b, .int x, .int (c + 1), .int r]) = st1 at g k1 ⊢
  have fin : ∀ (i : Int) (ms : List Int) (x' r' : Int) (st2 st' : Sto), 0 ≤ i → i < n → 0 ≤ x' → Stm a b ms x' (c + 1) r' st' → 0 ≤ r' → r' < 2147483647 → Kp [a, b] st st2 → Kp [a, b] st2 st' →
      ∃ i' : Int, D.int i = .int i' ∧ 0 ≤ i' ∧ i' < n ∧ Strm a b (k + 1) st' ∧ Kp [a, b] st st' := fun i ms x' r' st2 st' hi hi2 hx' g' hr' hr2' k2 k' =>
    ⟨i, rfl, hi, hi2, ⟨ms, x', c + 1, r', g'.1, g'.2.1, hx', by omega, by omega, hr', hr2', hab⟩, k2.trans k'⟩
  refine ws_seq ?_
  refine ws_if ?_
  walk_at "wp"
  refine g.ix 1 (.int x) rfl 1 rfl ?_
  walk_at "wp"
  by_cases x0 : x = 0
  rotate_left
  · rw [decide_eq_false x0]
    refine if_ff (if_ff ?_)
    refine ws_nil ?_
    exact draw_end g hx (by omega) (by omega) hr hr2 hn hl fun i x' st' hi hi2 hx' g' k' => fin i ns x' r st1 st' hi hi2 hx' g' hr hr2 k1 k'
  · subst x0
    refine if_tt ?_
    walk_at "wp"
    refine g.ix 0 (.obj b) rfl 0 rfl ?_
    walk_at "wp"
    refine ⟨by decide, wp_neP (n := 1) (m := 1) (by simp only [resolve, g.2.1]; rfl) rfl (by simpa [plD] using plDs_ints 0 ns) (by rfl) (by decide) (by decide) ?_⟩
    walk_at "wp"
    cases ns with
    | nil =>
      refine if_ff ?_
      refine ws_nil ?_
      exact draw_end g hx (by omega) (by omega) hr hr2 hn hl fun i x' st' hi hi2 hx' g' k' => fin i [] x' r st1 st' hi hi2 hx' g' hr hr2 k1 k'
    | cons m ns =>
      refine if_tt ?_
      walk_at "wp"
      refine g.ix 0 (.obj b) rfl 0 rfl ?_
      refine ⟨by simp only [lstOf, g.2.1]; rfl, ?_⟩
      walk_at "wp"
      refine wp_pop0 g.2.1 ?_
      have g2 := g.wb (ms := ns)
      have k2 : Kp [a, b] st (st1.set b (.lst (ns.map .int))) := k1.put (by simp) _
      show Wp _ (st1.set b (.lst (ns.map .int))) _
      generalize st1.set b (.lst (ns.map .int)) = st2 at g2 k2 ⊢
      walk_at "wp"
      refine wp_setD g2.1 (j := 1) rfl ?_
      have g3 := g2.w1 (v := m)
      have k3 : Kp [a, b] st (st2.set a (.lst [.obj b, .int m, .int (c + 1), .int r])) := k2.put (by simp) _
      show Ws _ _ (st2.set a (.lst [.obj b, .int m, .int (c + 1), .int r])) _ _ _ _
      generalize st2.set a (.lst [.obj b, .int m, .int (c + 1), .int r]) = st3 at g3 k3 ⊢
      walk_at "wp"
      refine g3.ix 1 (.int m) rfl 1 rfl ?_
      walk_at "wp"
      refine wp_powI (by decide) ?_
      walk_at "wp"
      refine if_bl (fun hm => ?_) fun hm => ?_
      · walk_at "wp"
        refine g3.ix 3 (.int r) rfl 3 rfl ?_
        walk_at "wp"
        refine wp_mulI ?_ ?_
        · exact Nat.lt_of_le_of_lt (Nat.add_le_add (log2_le (k := 31) (by omega)) (Nat.le_refl _)) (by decide)
        walk_at "wp"
        refine g3.ix 1 (.int m) rfl 1 rfl ?_
        walk_at "wp"
        refine wp_modI (by decide) ?_
        walk_at "wp"
        refine wp_setD g3.1 (j := 3) rfl ?_
        have g4 := g3.w3 (v := (r * 39373 + m).fmod 2147483647)
        have k4 : Kp [a, b] st (st3.set a (.lst [.obj b, .int m, .int (c + 1), .int ((r * 39373 + m).fmod 2147483647)])) := k3.put (by simp) _
        show Ws _ _ (st3.set a (.lst [.obj b, .int m, .int (c + 1), .int ((r * 39373 + m).fmod 2147483647)])) _ _ _ _
        generalize st3.set a (.lst [.obj b, .int m, .int (c + 1), .int ((r * 39373 + m).fmod 2147483647)]) = st4 at g4 k4 ⊢
        walk_at "wp"
        refine wp_setD g4.1 (j := 1) rfl ?_
        have h0 := fmod_rng (i := r * 39373 + m) (j := 2147483647) (by decide)
        exact draw_end (g4.w1 (v := 0)) (by decide) (by omega) (by omega) h0.1 h0.2 hn hl fun i x' st' hi hi2 hx' g' k' => fin i ns x' _ _ st' hi hi2 hx' g' h0.1 h0.2 (k4.put (by simp) _) k'
      · have : (10 : Int) ^ (18 : Int).toNat = 1000000000000000000 := by decide
        refine ws_nil ?_
        exact draw_end g3 (by omega) (by omega) (by omega) hr hr2 hn hl fun i x' st' hi hi2 hx' g' k' => fin i ns x' r st3 st' hi hi2 hx' g' hr hr2 k3 k'
end Mir

namespace Mir
open PySem PySem.Spec PyProof.Rows L2

theorem Kp.drop {S : List Nat} {a b c : Sto} (x : Kp [] a b) (y : Kp S b c) : Kp S a c := (x.more (by simp)).trans y
theorem Strm.kp {a b k : Nat} {st st' : Sto} (h : Strm a b k st) (x : Kp [] st st') : Strm a b k st' := by
  obtain ⟨ns, u, c, r, h1, h2, h3⟩ := h
  exact ⟨ns, u, c, r, x.at' _ _ (by simp) h1, x.at' _ _ (by simp) h2, h3⟩
theorem Strm.le {a b k l : Nat} {st : Sto} (h : Strm a b k st) (x : k ≤ l) : Strm a b l st := by
  obtain ⟨ns, u, c, r, h1, h2, h3, h4, h5, h6⟩ := h
  exact ⟨ns, u, c, r, h1, h2, h3, h4, by omega, h6⟩
section
variable {env : Env} {st : Sto} {Q : D → Sto → Prop} {d : D} {xs : List D}
theorem wp_tuple (hs : seqOf st d = some xs) (q : Q (.tup xs) st) : Wp (tupleD d) st Q := ⟨_, _, by simp only [tupleD, hs], q⟩
theorem wp_list (hs : srcOf st d = some xs) (q : Q (.lst xs) st) : Wp (listD d) st Q := ⟨_, _, by simp only [listD, hs], q⟩
theorem wp_listN (hs : srcOf st d = some xs) (q : Q (.obj st.length) (st ++ [.lst xs])) : Wp (listN d) st Q := ⟨_, _, by simp only [listN, hs]; rfl, q⟩
theorem asInts_ints (l : List Int) : asInts (l.map .int) = some l := by
  induction l with
  | nil => rfl
  | cons i l ih => simp only [List.map_cons, asInts, ih, Option.map_some]
theorem wp_all {bs : List Bool} (hs : lstOf st d = some xs) (hb : asBls xs = some bs) (q : Q (.bl (bs.all id)) st) : Wp (allD d) st Q := ⟨_, _, by simp only [allD, blsF, hs, hb], q⟩
theorem wp_any {bs : List Bool} (hs : lstOf st d = some xs) (hb : asBls xs = some bs) (q : Q (.bl (bs.any id)) st) : Wp (anyD d) st Q := ⟨_, _, by simp only [anyD, blsF, hs, hb], q⟩
theorem wp_sum {bs : List Int} (hs : lstOf st d = some xs) (hb : asInts xs = some bs) (q : Q (.int bs.sum) st) : Wp (sumD d) st Q := ⟨_, _, by simp only [sumD, intsF, hs, hb], q⟩
theorem wp_sorted {bs : List Int} (hs : lstOf st d = some xs) (hb : asInts xs = some bs) (q : Q (.lst ((sortI bs).map .int)) st) : Wp (sortedD d) st Q := ⟨_, _, by simp only [sortedD, intsF, hs, hb], q⟩
theorem wp_lenSet {bs : List Int} (hs : lstOf st d = some xs) (hb : asInts xs = some bs) (hz : bs.length ≤ 4000) (q : Q (.int (difI bs).length) st) : Wp (lenSetD d) st Q := ⟨_, _, by simp only [lenSetD, hs, hb]; exact okIf_true (decide_eq_true hz), q⟩
theorem wp_isiB {T t : String} (ht : tyD st d = some t) (hk : kitOk t T = true) (b : Bool) (hb : subT t T = b) (q : Q (.bl b) st) : Wp (isiD [T] d) st Q := by subst hb; exact wp_isi ht hk q
theorem wp_slice {a : Env → M D} {l h : Env → M (Option Int)} : Wp (a env) st (fun x st1 => Wp (l env) st1 fun lo st2 => Wp (h env) st2 fun hi st3 => Wp (sliceD x lo hi) st3 Q) → Wp (eSlice a l h env) st Q :=
  fun q => Wp.bind (q.mono fun _ _ q => Wp.bind (q.mono fun _ _ q => Wp.bind q))
theorem wo_none {R : Option Int → Sto → Prop} (q : R none st) : Wp (oNone env) st R := ⟨_, _, rfl, q⟩
theorem wo_some {R : Option Int → Sto → Prop} {a : Env → M D} (q : Wp (a env) st fun d st1 => ∃ i, d = .int i ∧ R (some i) st1) : Wp (oSome a env) st R := Wp.bind (q.mono fun d st1 ⟨i, e, q⟩ => by subst e; exact ⟨_, _, rfl, q⟩)
theorem wp_allF {α : Type} (f : α → Bool) {ys : List α} (hs : lstOf st d = some (ys.map fun x => .bl (f x))) (q : Q (.bl (ys.all f)) st) : Wp (allD d) st Q := by
  have e : asBls (ys.map fun x => .bl (f x)) = some (ys.map f) := by
    clear hs q
    induction ys with
    | nil => rfl
    | cons y ys ih => simp only [List.map_cons, asBls, ih, Option.map_some]
  refine wp_all hs e ?_
  rw [List.all_map]
  exact q
theorem wp_anyF {α : Type} (f : α → Bool) {ys : List α} (hs : lstOf st d = some (ys.map fun x => .bl (f x))) (q : Q (.bl (ys.any f)) st) : Wp (anyD d) st Q := by
  have e : asBls (ys.map fun x => .bl (f x)) = some (ys.map f) := by
    clear hs q
    induction ys with
    | nil => rfl
    | cons y ys ih => simp only [List.map_cons, asBls, ih, Option.map_some]
  refine wp_any hs e ?_
  rw [List.any_map]
  exact q
/-- with a test -/
theorem wl_filter {mi : Env → M Src} {t : Tg} {mt : Env → M Bool} {me : Env → M D} {vs : List Nat} (g : D → Bool) (f : D → D) (h : Wp (mi env) st fun src st1 => src.1.length ≤ 1000000 ∧ (∀ st', Kp [] st1 st' → src.2 st') ∧
    (∀ d ∈ src.1, ∀ st2, Kp [] st1 st2 → ∃ env1, tgD t d (wipeE env vs) = some env1 ∧ Wp (mt env1) st2 fun c st3 => c = g d ∧ Kp [] st2 st3 ∧ (c = true → Wp (me env1) st3 fun y st4 => y = f d ∧ Kp [] st3 st4)) ∧ ∀ st', Kp [] st1 st' → st'[st1.length]? = some (.lst ((src.1.filter g).map f)) → Q (.obj st1.length) st') :
    Wp (eLC mi t mt me vs env) st Q := by
  obtain ⟨src, st1, e, hz, hck, step, fin⟩ := h
  obtain ⟨a, st', e2, q⟩ := wp_lc (t := t) (mt := mt) (me := me) (vs := vs) e (fun i acc st' => Kp [] st1 st' ∧ st'[st1.length]? = some (.lst acc) ∧ acc = ((src.1.take i).filter g).map f) ⟨Kp.app _ _ _, by rw [List.getElem?_append_right (Nat.le_refl _), Nat.sub_self]; rfl, rfl⟩ (fun i acc st' h => hck st' h.1) (by
    rintro i d acc st2 hd ⟨k1, e1, e2⟩
    obtain ⟨env1, t1, c, st3, w1, rfl, k2, w2⟩ := step d (List.mem_of_getElem? hd) st2 k1
    have hi := (List.getElem?_eq_some_iff.mp hd).1
    refine ⟨env1, t1, g d, st3, w1, ?_⟩
    cases hg : g d with
    | false =>
      rw [if_neg (by simp)]
      refine ⟨k1.trans k2, k2.at' _ _ (by simp) e1, ?_⟩
      rw [e2, List.take_add_one, hd, List.filter_append]
      simp [hg]
    | true =>
      rw [if_pos rfl]
      obtain ⟨y, st4, w3, rfl, k3⟩ := w2 hg
      have e4 := (k2.trans k3).at' _ _ (by simp) e1
      refine ⟨f d, st4, w3, e4, ?_, ?_, ?_, ?_⟩
      · rw [e2, List.length_map]
        have := List.length_filter_le g (src.1.take i)
        rw [List.length_take] at this
        omega
      · exact ((k1.trans k2).trans k3).set (.inl (Nat.le_refl _)) _
      · rw [List.getElem?_set_self (List.getElem?_eq_some_iff.mp e4).1]
      · rw [e2, List.take_add_one, hd, List.filter_append, List.map_append]
        simp [hg])
  obtain ⟨rfl, acc, k, e3, e4⟩ := q
  rw [List.take_length] at e4
  exact ⟨_, st', e2, fin st' k (by rw [e3, e4])⟩
/-- a comprehension without a test, its elements functions of the items -/
theorem wl_map {mi : Env → M Src} {t : Tg} {me : Env → M D} {vs : List Nat} (f : D → D) (h : Wp (mi env) st fun src st1 => src.1.length ≤ 1000000 ∧ (∀ st', Kp [] st1 st' → src.2 st') ∧
    (∀ d ∈ src.1, ∀ st2, Kp [] st1 st2 → ∃ env1, tgD t d (wipeE env vs) = some env1 ∧ Wp (me env1) st2 fun y st3 => y = f d ∧ Kp [] st2 st3) ∧ ∀ st', Kp [] st1 st' → st'[st1.length]? = some (.lst (src.1.map f)) → Q (.obj st1.length) st') :
    Wp (eLC mi t (fun _ => pure true) me vs env) st Q := by
  obtain ⟨src, st1, e, hz, hck, step, fin⟩ := h
  refine wl_filter (fun _ => true) f ⟨src, st1, e, hz, hck, fun d hd st2 k => ?_, fun st' k g => fin st' k ?_⟩
  · obtain ⟨env1, e1, w⟩ := step d hd st2 k
    exact ⟨env1, e1, Wp.pure ⟨rfl, Kp.refl _ _, fun _ => w⟩⟩
  · rw [List.filter_eq_self.mpr (fun _ _ => rfl)] at g
    exact g
end
/-! ### rows and matrices -/
def rowD (xs : List Int) : D := .tup (xs.map .int)
def matD (rs : List (List Int)) : D := .tup (rs.map rowD)
theorem atI_at {α : Type} {xs : List α} {j : Nat} {x : α} (h : xs[j]? = some x) : atI xs (j : Int) = some x := by
  have l := (List.getElem?_eq_some_iff.mp h).1
  unfold atI ixN
  rw [if_pos (by omega), if_pos (by omega), Int.toNat_natCast]
  exact h
theorem atI_get {α : Type} {xs : List α} {i : Int} (h0 : 0 ≤ i) (h1 : i < xs.length) : ∃ x, xs[i.toNat]? = some x ∧ atI xs i = some x := by
  have l : i.toNat < xs.length := by omega
  refine ⟨xs[i.toNat], List.getElem?_eq_getElem l, ?_⟩
  have := atI_at (List.getElem?_eq_getElem l)
  rwa [Int.toNat_of_nonneg h0] at this
/-- the j-th of a row -/
theorem wp_ixR {xs : List Int} {st : Sto} {Q : D → Sto → Prop} {j : Nat} (h : j < xs.length) (q : Q (.int (xs.getD j 0)) st) : Wp (ixD (rowD xs) (.int j)) st Q := by
  refine wp_ixL (xs := xs.map .int) rfl (atI_at (x := .int (xs.getD j 0)) ?_) q
  rw [List.getElem?_map, List.getD_eq_getElem?_getD, List.getElem?_eq_getElem h]
  rfl
theorem wp_ixM {rs : List (List Int)} {st : Sto} {Q : D → Sto → Prop} {j : Nat} (h : j < rs.length) (q : Q (rowD (rs.getD j [])) st) : Wp (ixD (matD rs) (.int j)) st Q := by
  refine wp_ixL (xs := rs.map rowD) rfl (atI_at (x := rowD (rs.getD j [])) ?_) q
  rw [List.getElem?_map, List.getD_eq_getElem?_getD, List.getElem?_eq_getElem h]
  rfl
mutual
/-- nothing of the store inside -/
def puD : D → Bool
  | .tup xs => puDs xs
  | .lst xs => puDs xs
  | .obj _ => false
  | .scr _ => false
  | _ => true
def puDs : List D → Bool
  | [] => true
  | x :: xs => puD x && puDs xs
end
theorem puDs_iff : ∀ {xs : List D}, puDs xs = true ↔ ∀ x ∈ xs, puD x = true
  | [] => by simp [puDs]
  | x :: xs => by simp only [puDs, Bool.and_eq_true, puDs_iff (xs := xs), List.forall_mem_cons]
def isI : D → Bool
  | .int _ => true
  | _ => false
def isT : D → Bool
  | .tup _ => true
  | _ => false
def isB : D → Bool
  | .bl _ => true
  | _ => false
def tyP : D → String
  | .non => "NoneType" | .bl _ => "bool" | .int _ => "int" | .str _ => "str" | .tup _ => "tuple" | .lst _ => "list" | .obj _ => "" | .scr _ => ""
theorem ty_pu {d : D} (h : puD d = true) (st : Sto) : tyD st d = some (tyP d) := by cases d <;> first | rfl | simp [puD] at h
theorem wp_isT {d : D} {st : Sto} {Q : D → Sto → Prop} (h : puD d = true) (q : Q (.bl (isT d)) st) : Wp (isiD ["tuple"] d) st Q :=
  wp_isiB (ty_pu h st) (by cases d <;> first | (simp [puD] at h; done) | (simp only [tyP]; decide)) (isT d) (by cases d <;> first | (simp [puD] at h; done) | (simp only [tyP, isT, isI, isB, Bool.or_true, Bool.or_false]; decide)) q
theorem wp_isInt {d : D} {st : Sto} {Q : D → Sto → Prop} (h : puD d = true) (q : Q (.bl (isI d || isB d)) st) : Wp (isiD ["int"] d) st Q :=
  wp_isiB (ty_pu h st) (by cases d <;> first | (simp [puD] at h; done) | (simp only [tyP]; decide)) (isI d || isB d) (by cases d <;> first | (simp [puD] at h; done) | (simp only [tyP, isT, isI, isB, Bool.or_true, Bool.or_false]; decide)) q
theorem wp_isBool {d : D} {st : Sto} {Q : D → Sto → Prop} (h : puD d = true) (q : Q (.bl (isB d)) st) : Wp (isiD ["bool"] d) st Q :=
  wp_isiB (ty_pu h st) (by cases d <;> first | (simp [puD] at h; done) | (simp only [tyP]; decide)) (isB d) (by cases d <;> first | (simp [puD] at h; done) | (simp only [tyP, isT, isI, isB, Bool.or_true, Bool.or_false]; decide)) q
/-! sorted, set -/
theorem insI_head {n : Int} {l : List Int} (h : ∀ m ∈ l, n ≤ m) : insI n l = n :: l := by
  cases l with
  | nil => rfl
  | cons m r => simp only [insI, h m (by simp), if_true]
theorem sortI_self {l : List Int} (h : l.Pairwise (· ≤ ·)) : sortI l = l := (sortI_unique (List.Perm.refl l) h).symm
theorem sortI_eq {l : List Int} : sortI l = l ↔ l.Pairwise (· ≤ ·) := ⟨fun h => h ▸ sortI_pw l, sortI_self⟩
theorem difI_nodup {l : List Int} (h : l.Nodup) : difI l = l := by
  have := RZ.firstMet_nodup h l.length (Nat.le_refl _)
  rw [List.take_length] at this
  exact this
theorem firstMet_full (val : Nat → Int) : ∀ i, (firstMet val i).length = i → ((List.range i).map val).Nodup
  | 0, _ => by simp
  | i + 1, h => by
    have hl := firstMet_length_le val i
    rw [firstMet_succ] at h
    unfold step_dedup at h
    split at h
    · omega
    · rename_i hn
      rw [List.length_append, List.length_singleton] at h
      have ih := firstMet_full val i (by omega)
      rw [firstMet_any] at hn
      rw [List.range_succ, List.map_append, List.nodup_append]
      refine ⟨ih, by simp, ?_⟩
      intro x hx y hy e
      have : y = val i := by simpa using hy
      subst this
      subst e
      exact hn (List.any_eq_true.mpr ⟨_, hx, by simp⟩)
theorem difI_len {l : List Int} : (difI l).length = l.length ↔ l.Nodup := by
  refine ⟨fun h => ?_, fun h => by rw [difI_nodup h]⟩
  have := firstMet_full _ l.length h
  have e : (List.range l.length).map (fun i => l.getD i 0) = l := by
    refine List.ext_getElem? fun i => ?_
    rw [List.getElem?_map]
    by_cases hi : i < l.length
    · rw [List.getElem?_range hi, List.getElem?_eq_getElem hi]
      simp [List.getD_eq_getElem?_getD, List.getElem?_eq_getElem hi]
    · rw [List.getElem?_eq_none (by simpa using hi), List.getElem?_eq_none (by simpa using hi)]
      rfl
  rw [e] at this
  exact this
theorem dEqs_ints : ∀ {xs ys : List Int}, dEqs (xs.map .int) (ys.map .int) = decide (xs = ys)
  | [], [] => rfl
  | [], _ :: _ => rfl
  | _ :: _, [] => rfl
  | x :: xs, y :: ys => by
    simp only [List.map_cons, dEqs, dEq, dEqs_ints (xs := xs) (ys := ys), List.cons.injEq]
    by_cases h : x = y <;> by_cases h2 : xs = ys <;> simp [h, h2]
end Mir

namespace Mir
open PySem PySem.Spec PyProof.Rows L2

/-! ### bases -/
def pv (r : List Int) : Nat := r.findIdx fun x => x != 0
def ent (rs : List (List Int)) (i c : Nat) : Int := (rs.getD i []).getD c 0
structure IsB (n : Nat) (rs : List (List Int)) : Prop where
  len : ∀ r ∈ rs, r.length = n
  piv : ∀ r ∈ rs, pv r < n
  asc : (rs.map pv).Pairwise (· < ·)
  pos : ∀ i < rs.length, 0 ≤ ent rs i (pv (rs.getD i []))
  red : ∀ i < rs.length, ∀ j < i, 0 ≤ ent rs j (pv (rs.getD i [])) ∧ ent rs j (pv (rs.getD i [])) < ent rs i (pv (rs.getD i []))
noncomputable def bas (n : Nat) (d : D) : Bool := @decide (∃ rs, d = matD rs ∧ IsB n rs) (Classical.propDecidable _)
theorem bas_true {n : Nat} {rs : List (List Int)} (h : IsB n rs) : bas n (matD rs) = true := by
  unfold bas
  exact @decide_eq_true _ (Classical.propDecidable _) ⟨rs, rfl, h⟩
theorem bas_false {n : Nat} {d : D} (h : ∀ rs, d = matD rs → IsB n rs → False) : bas n d = false := by
  unfold bas
  exact @decide_eq_false _ (Classical.propDecidable _) fun ⟨rs, e, b⟩ => h rs e b
theorem bas_notT {n : Nat} {d : D} (h : isT d = false) : bas n d = false := bas_false fun rs e b => by
  subst e
  cases h
theorem ints_inj : ∀ {xs ys : List Int}, xs.map D.int = ys.map D.int → xs = ys
  | [], [], _ => rfl
  | [], _ :: _, h => by simp at h
  | _ :: _, [], h => by simp at h
  | x :: xs, y :: ys, h => by
    simp only [List.map_cons, List.cons.injEq, D.int.injEq] at h
    rw [h.1, ints_inj h.2]
theorem rowD_inj {xs ys : List Int} (h : rowD xs = rowD ys) : xs = ys := by
  simp only [rowD, D.tup.injEq] at h
  exact ints_inj h
theorem rows_inj : ∀ {xs ys : List (List Int)}, xs.map rowD = ys.map rowD → xs = ys
  | [], [], _ => rfl
  | [], _ :: _, h => by simp at h
  | _ :: _, [], h => by simp at h
  | x :: xs, y :: ys, h => by
    simp only [List.map_cons, List.cons.injEq] at h
    rw [rowD_inj h.1, rows_inj h.2]
theorem matD_inj {xs ys : List (List Int)} (h : matD xs = matD ys) : xs = ys := by
  simp only [matD, D.tup.injEq] at h
  exact rows_inj h
theorem bas_mat {n : Nat} {rs : List (List Int)} (h : ¬ IsB n rs) : bas n (matD rs) = false := bas_false fun rs' e b => by
  rw [matD_inj e] at h
  exact h b
/-- a form of the size -/
def isF (n : Int) : D → Bool
  | .tup xs => decide ((xs.length : Int) = n) && xs.all isI
  | _ => false
theorem all_isI : ∀ {ds : List D}, ds.all isI = true → ∃ xs : List Int, ds = xs.map .int
  | [], _ => ⟨[], rfl⟩
  | d :: ds, h => by
    rw [List.all_cons, Bool.and_eq_true] at h
    obtain ⟨xs, rfl⟩ := all_isI h.2
    cases d with
    | int i => exact ⟨i :: xs, rfl⟩
    | _ => simp [isI] at h
theorem isI_all (xs : List Int) : (xs.map D.int).all isI = true := by
  rw [List.all_eq_true]
  intro d hd
  obtain ⟨i, _, rfl⟩ := List.mem_map.mp hd
  rfl
theorem isF_row {n : Int} {d : D} (h : isF n d = true) : ∃ xs : List Int, d = rowD xs ∧ (xs.length : Int) = n := by
  cases d with
  | tup ds =>
    simp only [isF, Bool.and_eq_true, decide_eq_true_eq] at h
    obtain ⟨xs, rfl⟩ := all_isI h.2
    exact ⟨xs, rfl, by simpa using h.1⟩
  | _ => simp [isF] at h
theorem row_isF {n : Int} {xs : List Int} (h : (xs.length : Int) = n) : isF n (rowD xs) = true := by
  simp only [isF, rowD, List.length_map, h, decide_true, isI_all, Bool.and_self]
theorem rows_of {n : Int} : ∀ {ds : List D}, (∀ d ∈ ds, isF n d = true) → ∃ rs : List (List Int), ds = rs.map rowD ∧ ∀ r ∈ rs, (r.length : Int) = n
  | [], _ => ⟨[], rfl, by simp⟩
  | d :: ds, h => by
    obtain ⟨xs, rfl, h1⟩ := isF_row (h d (by simp))
    obtain ⟨rs, rfl, h2⟩ := rows_of (n := n) (ds := ds) fun e he => h e (by simp [he])
    exact ⟨xs :: rs, rfl, by
      intro r hr
      rcases List.mem_cons.mp hr with rfl | hr
      · exact h1
      · exact h2 r hr⟩
/-- the pivot as a thing -/
def pvD (xs : List Int) : D := if pv xs < xs.length then .int (pv xs) else .non
def pvF : D → D
  | .tup ds => match asInts ds with
    | some xs => pvD xs
    | none => .non
  | _ => .non
theorem pvF_row (xs : List Int) : pvF (rowD xs) = pvD xs := by simp only [pvF, rowD, asInts_ints]
theorem pv_zero {xs : List Int} {j : Nat} (h : j < pv xs) : xs.getD j 0 = 0 := by
  have hl : j < xs.length := Nat.lt_of_lt_of_le h List.findIdx_le_length
  have := List.not_of_lt_findIdx (p := fun x => x != 0) (xs := xs) (i := j) h
  rw [List.getD_eq_getElem?_getD, List.getElem?_eq_getElem hl]
  simpa using this
theorem pv_ne {xs : List Int} (h : pv xs < xs.length) : xs.getD (pv xs) 0 ≠ 0 := by
  have := List.findIdx_getElem (p := fun x => x != 0) (xs := xs) (w := h)
  rw [List.getD_eq_getElem?_getD, List.getElem?_eq_getElem h]
  intro e
  have h2 : (xs[pv xs] != 0) = true := this
  rw [show xs[pv xs] = 0 from e] at h2
  cases h2
theorem pv_eq {xs : List Int} {c : Nat} (hc : c < xs.length) (h0 : xs.getD c 0 ≠ 0) (hz : ∀ j < c, xs.getD j 0 = 0) : pv xs = c := by
  by_cases h : pv xs < c
  · exact absurd (hz _ h) (pv_ne (by omega))
  · by_cases h2 : c < pv xs
    · exact absurd (pv_zero h2) h0
    · omega
theorem pv_none {xs : List Int} (hz : ∀ j < xs.length, xs.getD j 0 = 0) : ¬ pv xs < xs.length := fun h => pv_ne h (hz _ h)
theorem puD_row (xs : List Int) : puD (rowD xs) = true := by
  unfold rowD
  simp only [puD, puDs_iff]
  intro x hx
  obtain ⟨i, _, rfl⟩ := List.mem_map.mp hx
  rfl
theorem puD_mat (rs : List (List Int)) : puD (matD rs) = true := by
  unfold matD
  simp only [puD, puDs_iff]
  intro x hx
  obtain ⟨i, _, rfl⟩ := List.mem_map.mp hx
  exact puD_row i

theorem wp_inF {a b : D} {xs : List D} {st : Sto} {Q : D → Sto → Prop} (hs : seqOf st b = some xs) (hf : (flatD a && xs.all flatD) = true) (q : Q (.bl (inV (tv a) (xs.map tv))) st) : Wp (inD false a b) st Q := ⟨_, _, by simp only [inD, hs]; exact okIf_true hf, q⟩
theorem pvD_flat (rs : List (List Int)) : (flatD .non && (rs.map pvD).all flatD) = true := by
  refine Bool.and_eq_true_iff.mpr ⟨rfl, List.all_eq_true.mpr fun x hx => ?_⟩
  obtain ⟨r, _, rfl⟩ := List.mem_map.mp hx
  unfold pvD
  split <;> rfl
/-- 0 <= row[c] < m -/
def redF (c : Nat) (m : Int) : D → Bool
  | .tup ds => match asInts ds with
    | some xs => decide (0 ≤ xs.getD c 0 ∧ xs.getD c 0 < m)
    | none => false
  | _ => false
theorem redF_row (c : Nat) (m : Int) (xs : List Int) : redF c m (rowD xs) = decide (0 ≤ xs.getD c 0 ∧ xs.getD c 0 < m) := by simp only [redF, rowD, asInts_ints]
theorem cutL_pre {α : Type} (xs : List α) (i : Nat) : cutL xs none (some (i : Int)) = xs.take i := by
  unfold cutL
  rw [HT.sIx_none, HT.sIx_nat, List.drop_zero, Nat.sub_zero]
  by_cases h : i ≤ xs.length
  · rw [Nat.min_eq_left h]
  · rw [Nat.min_eq_right (by omega), List.take_length, List.take_of_length_le (by omega)]
theorem cutL_post {α : Type} (xs : List α) (i : Nat) : cutL xs (some (i : Int)) none = xs.drop i := by
  unfold cutL
  rw [HT.sIx_none, HT.sIx_nat]
  by_cases h : i ≤ xs.length
  · rw [Nat.min_eq_left h, List.take_of_length_le (by rw [List.length_drop]; omega)]
  · rw [Nat.min_eq_right (by omega), Nat.sub_self, List.take_zero, List.drop_of_length_le (by omega)]
theorem wp_slicePre {xs : List D} {i : Nat} {st : Sto} {Q : D → Sto → Prop} (q : Q (.tup (xs.take i)) st) : Wp (sliceD (.tup xs) none (some (i : Int))) st Q := ⟨_, _, rfl, by rw [cutL_pre]; exact q⟩
theorem wp_slicePost {xs : List D} {i : Nat} {st : Sto} {Q : D → Sto → Prop} (q : Q (.tup (xs.drop i)) st) : Wp (sliceD (.tup xs) (some (i : Int)) none) st Q := ⟨_, _, rfl, by rw [cutL_post]; exact q⟩

theorem resolve_lst {st : Sto} {d : D} {xs : List D} (h : lstOf st d = some xs) : resolve st d = .lst xs := by
  cases d with
  | lst ys => simp only [lstOf, Option.some.injEq] at h; subst h; rfl
  | obj n => simp only [resolve, obj_lst h]
  | _ => simp only [lstOf] at h; cases h
section
variable {a b : D} {xs ys : List Int} {st : Sto} {Q : D → Sto → Prop}
theorem wp_eqInts (ha : lstOf st a = some (xs.map .int)) (hb : lstOf st b = some (ys.map .int)) (q : Q (.bl (decide (xs = ys))) st) : Wp (eqD false a b) st Q :=
  wp_eqP (n := 1) (m := 1) (resolve_lst ha) (resolve_lst hb) (by simpa only [plD] using plDs_ints 0 xs) (by simpa only [plD] using plDs_ints 0 ys) (by decide) (by decide) (by simpa only [dEq, dEqs_ints] using q)
theorem wp_neInts (ha : lstOf st a = some (xs.map .int)) (hb : lstOf st b = some (ys.map .int)) (q : Q (.bl (!decide (xs = ys))) st) : Wp (eqD true a b) st Q :=
  wp_neP (n := 1) (m := 1) (resolve_lst ha) (resolve_lst hb) (by simpa only [plD] using plDs_ints 0 xs) (by simpa only [plD] using plDs_ints 0 ys) (by decide) (by decide) (by simpa only [dEq, dEqs_ints] using q)
end

theorem getD_app_l {α : Type} {xs ys : List α} {d : α} {i : Nat} (h : i < xs.length) : (xs ++ ys).getD i d = xs.getD i d := by
  rw [List.getD_eq_getElem?_getD, List.getD_eq_getElem?_getD, List.getElem?_append_left h]
theorem getD_app_e {α : Type} {xs : List α} {y d : α} : (xs ++ [y]).getD xs.length d = y := by
  rw [List.getD_eq_getElem?_getD, List.getElem?_append_right (Nat.le_refl _), Nat.sub_self]
  rfl
theorem getD_mem {α : Type} {xs : List α} {d : α} {i : Nat} (h : i < xs.length) : xs.getD i d ∈ xs := by
  rw [List.getD_eq_getElem?_getD, List.getElem?_eq_getElem h]
  exact List.getElem_mem h
theorem mem_getD {α : Type} {xs : List α} {x d : α} (h : x ∈ xs) : ∃ i, i < xs.length ∧ xs.getD i d = x := by
  obtain ⟨i, hi, e⟩ := List.getElem_of_mem h
  exact ⟨i, hi, by rw [List.getD_eq_getElem?_getD, List.getElem?_eq_getElem hi]; exact e⟩
theorem IsB.nil (n : Nat) : IsB n [] := ⟨by simp, by simp, by simp, fun i h => absurd h (Nat.not_lt_zero _), fun i h => absurd h (Nat.not_lt_zero _)⟩
theorem IsB_snoc {n : Nat} {rs : List (List Int)} {r : List Int} : IsB n (rs ++ [r]) ↔ IsB n rs ∧ r.length = n ∧ pv r < n ∧ (∀ q ∈ rs, pv q < pv r) ∧ 0 ≤ r.getD (pv r) 0 ∧ ∀ q ∈ rs, 0 ≤ q.getD (pv r) 0 ∧ q.getD (pv r) 0 < r.getD (pv r) 0 := by
  constructor
  · intro b
    have hasc := b.asc
    rw [List.map_append, List.pairwise_append] at hasc
    have hlast := getD_app_e (xs := rs) (y := r) (d := [])
    refine ⟨⟨fun q h => b.len q (by simp [h]), fun q h => b.piv q (by simp [h]), hasc.1, fun i hi => ?_, fun i hi j hj => ?_⟩, b.len r (by simp), b.piv r (by simp), fun q h => hasc.2.2 _ (List.mem_map.mpr ⟨q, h, rfl⟩) _ (by simp), ?_, fun q h => ?_⟩
    · have := b.pos i (by rw [List.length_append]; omega)
      simpa only [ent, getD_app_l hi] using this
    · have := b.red i (by rw [List.length_append]; omega) j hj
      simpa only [ent, getD_app_l hi, getD_app_l (Nat.lt_trans hj hi)] using this
    · have := b.pos rs.length (by simp)
      simpa only [ent, hlast] using this
    · obtain ⟨j, hj, rfl⟩ := mem_getD (d := []) h
      have := b.red rs.length (by simp) j hj
      simpa only [ent, hlast, getD_app_l hj] using this
  · rintro ⟨b, hl, hp, ha, h0, hr⟩
    have hlast := getD_app_e (xs := rs) (y := r) (d := [])
    refine ⟨fun q h => ?_, fun q h => ?_, ?_, fun i hi => ?_, fun i hi j hj => ?_⟩
    · rcases List.mem_append.mp h with h | h
      · exact b.len q h
      · rw [List.mem_singleton.mp h]; exact hl
    · rcases List.mem_append.mp h with h | h
      · exact b.piv q h
      · rw [List.mem_singleton.mp h]; exact hp
    · rw [List.map_append, List.pairwise_append]
      refine ⟨b.asc, by simp, fun x hx y hy => ?_⟩
      obtain ⟨q, hq, rfl⟩ := List.mem_map.mp hx
      have : y = pv r := by simpa using hy
      rw [this]
      exact ha q hq
    · rw [List.length_append, List.length_singleton] at hi
      by_cases h : i < rs.length
      · simpa only [ent, getD_app_l h] using b.pos i h
      · have : i = rs.length := by omega
        subst this
        simpa only [ent, hlast] using h0
    · rw [List.length_append, List.length_singleton] at hi
      by_cases h : i < rs.length
      · simpa only [ent, getD_app_l h, getD_app_l (Nat.lt_trans hj h)] using b.red i h j hj
      · have : i = rs.length := by omega
        subst this
        simpa only [ent, hlast, getD_app_l hj] using hr _ (getD_mem hj)
theorem IsB.pre {n : Nat} : ∀ (b : List (List Int)) {a : List (List Int)}, IsB n (a ++ b) → IsB n a
  | [], a, h => by rwa [List.append_nil] at h
  | x :: b, a, h => by
    rw [show a ++ x :: b = (a ++ [x]) ++ b by simp] at h
    exact (IsB_snoc.mp (IsB.pre b h)).1
theorem IsB.take {n : Nat} {rs : List (List Int)} (b : IsB n rs) (i : Nat) : IsB n (rs.take i) := IsB.pre (rs.drop i) (by rw [List.take_append_drop]; exact b)
theorem dec_ne (y : Int) : decide (y ≠ 0) = (y != 0) := by
  by_cases h : y = 0
  · subst h; rfl
  · rw [decide_eq_true h]
    exact (bne_iff_ne.mpr h).symm
/-- the places of what is not zero -/
def plc (xs : List Int) : List Nat := (List.range xs.length).filter fun i => xs.getD i 0 != 0
def neF : D → Bool
  | .tup [_, .int y] => y != 0
  | _ => false
def fstF : D → D
  | .tup (x :: _) => x
  | _ => .non
theorem enumL_ints (xs : List Int) : enumL (xs.map .int) = (List.range xs.length).map fun i => .tup [.int (i : Nat), .int (xs.getD i 0)] := by
  unfold enumL
  rw [List.length_map]
  refine List.map_congr_left fun i hi => ?_
  have h := List.mem_range.mp hi
  rw [List.getD_eq_getElem?_getD, List.getElem?_map, List.getElem?_eq_getElem h, List.getD_eq_getElem?_getD, List.getElem?_eq_getElem h]
  rfl
theorem plc_D (xs : List Int) : ((enumL (xs.map .int)).filter neF).map fstF = ((plc xs).map fun i : Nat => (i : Int)).map .int := by
  rw [enumL_ints, List.filter_map, List.map_map, List.map_map]
  rfl
theorem plc_none {xs : List Int} (h : ¬ pv xs < xs.length) : plc xs = [] := by
  unfold plc
  rw [List.filter_eq_nil_iff]
  intro i hi
  have h1 := List.mem_range.mp hi
  have := pv_zero (xs := xs) (j := i) (by omega)
  rw [this]
  decide
theorem range_filter_head (p : Nat → Bool) (c : Nat) (hc : p c = true) (hz : ∀ j < c, p j = false) : ∀ n, c < n → ((List.range n).filter p)[0]? = some c
  | n + 1, h => by
    rw [List.range_succ, List.filter_append]
    by_cases hn : c < n
    · rw [List.getElem?_append_left]
      · exact range_filter_head p c hc hz n hn
      · have := range_filter_head p c hc hz n hn
        exact (List.getElem?_eq_some_iff.mp this).1
    · have e : c = n := by omega
      subst e
      have : (List.range c).filter p = [] := by
        rw [List.filter_eq_nil_iff]
        intro j hj
        rw [hz j (List.mem_range.mp hj)]
        simp
      rw [this]
      simp [hc]
theorem plc_some {xs : List Int} (h : pv xs < xs.length) : (plc xs)[0]? = some (pv xs) := by
  refine range_filter_head _ _ ?_ ?_ _ h
  · simpa using pv_ne h
  · intro j hj
    simpa using pv_zero hj
end Mir

namespace Mir
open PySem PySem.Spec PyProof.Rows L2

theorem Strm.lt {a b k : Nat} {st : Sto} (h : Strm a b k st) : a < st.length ∧ b < st.length := by
  obtain ⟨ns, u, c, r, h1, h2, h3⟩ := h
  exact ⟨(List.getElem?_eq_some_iff.mp h1).1, (List.getElem?_eq_some_iff.mp h2).1⟩
theorem Strm.nin {a b k : Nat} {st : Sto} (h : Strm a b k st) {p : Nat} (hp : st.length ≤ p) : p ∉ [a, b] := by
  have := h.lt
  simp only [List.mem_cons, List.not_mem_nil, or_false, not_or]
  omega
theorem Strm.set {a b k : Nat} {st : Sto} (h : Strm a b k st) {p : Nat} (hp : p ∉ [a, b]) (o : O) : Strm a b k (st.set p o) := by
  obtain ⟨ns, u, c, r, h1, h2, h3⟩ := h
  simp only [List.mem_cons, List.not_mem_nil, or_false, not_or] at hp
  exact ⟨ns, u, c, r, by rw [List.getElem?_set_ne hp.1]; exact h1, by rw [List.getElem?_set_ne hp.2]; exact h2, h3⟩
theorem Strm.app {a b k : Nat} {st : Sto} (h : Strm a b k st) (o : O) : Strm a b k (st ++ [o]) := h.kp (Kp.app [] st o)
theorem app_get {st : Sto} {o : O} : (st ++ [o])[st.length]? = some o := by rw [List.getElem?_append_right (Nat.le_refl _), Nat.sub_self]; rfl
theorem set_get {st : Sto} {p : Nat} {o u : O} (h : st[p]? = some u) : (st.set p o)[p]? = some o := by rw [List.getElem?_set_self (List.getElem?_eq_some_iff.mp h).1]
theorem set_get_ne {st : Sto} {p q : Nat} {o u : O} (hne : p ≠ q) (h : st[q]? = some u) : (st.set p o)[q]? = some u := by rw [List.getElem?_set_ne hne]; exact h
theorem wi_zip {a b : Env → M D} {env : Env} {st : Sto} {Q : Src → Sto → Prop} (h : Wp (a env) st fun d st1 => Wp (b env) st1 fun e st2 => ∃ xs ys, seqOf st2 d = some xs ∧ seqOf st2 e = some ys ∧ Q (zipL xs ys, fun st' => seqOf st' d = some xs ∧ seqOf st' e = some ys) st2) : Wp (itZip a b env) st Q :=
  Wp.bind (h.mono fun d st1 q => Wp.bind (q.mono fun e st2 ⟨xs, ys, e1, e2, q⟩ => ⟨_, _, by simp only [zipSrc, e1, e2], q⟩))
theorem wp_rep {xs : List D} {j : Int} {st : Sto} {Q : D → Sto → Prop} (h1 : 0 ≤ j) (h2 : xs.length * j.toNat ≤ 1000000) (h3 : j < 2 ^ 62) (q : Q (.lst (List.replicate j.toNat xs).flatten) st) : Wp (repD (.lst xs) (.int j)) st Q := by
  refine ⟨_, _, okIf_true ?_, q⟩
  rw [Bool.and_eq_true]
  exact ⟨decide_eq_true ⟨by omega, by omega⟩, szOk_of h2⟩
theorem rep1 (x : D) (j : Nat) : (List.replicate j [x]).flatten = List.replicate j x := by
  induction j with
  | zero => rfl
  | succ j ih => rw [List.replicate_succ, List.flatten_cons, ih, List.replicate_succ]; rfl
theorem wp_addN {a b : D} {xs ys : List D} {st : Sto} {Q : D → Sto → Prop} (ha : lstOf st a = some xs) (hb : lstOf st b = some ys) (hz : xs.length + ys.length ≤ 1000000) (q : Q (.obj st.length) (st ++ [.lst (xs ++ ys)])) : Wp (addN a b) st Q :=
  ⟨_, _, by simp only [addN, ha, hb, szOk_of hz, if_true]; rfl, q⟩
theorem wp_addL {a b : D} {xs ys : List D} {st : Sto} {Q : D → Sto → Prop} (ha : lstOf st a = some xs) (hb : lstOf st b = some ys) (hz : xs.length + ys.length ≤ 1000000) (q : Q (.lst (xs ++ ys)) st) : Wp (addD a b) st Q := by
  refine ⟨_, _, ?_, q⟩
  cases a <;> first
    | (simp only [lstOf] at ha; cases ha; done)
    | (simp only [addD, ha, hb]; exact okIf_true (szOk_of hz))
theorem wp_addT {xs ys : List D} {st : Sto} {Q : D → Sto → Prop} (hz : xs.length + ys.length ≤ 1000000) (q : Q (.tup (xs ++ ys)) st) : Wp (addD (.tup xs) (.tup ys)) st Q := ⟨_, _, okIf_true (szOk_of hz), q⟩

/-! the reduction of rows -/
theorem fdiv_abs {x p : Int} (hp : 0 < p) : (x.fdiv p).natAbs ≤ x.natAbs := by
  have h1 := Int.mul_fdiv_add_fmod x p
  have h2 := fmod_rng (i := x) hp
  generalize x.fdiv p = q at *
  generalize x.fmod p = r at *
  have h3 : q * p = x - r := by rw [Int.mul_comm]; omega
  rcases Int.lt_or_le q 0 with hq | hq
  · have : (q + 1) * p ≤ (q + 1) * 1 := Int.mul_le_mul_of_nonpos_left (by omega) (by omega)
    rw [Int.add_mul] at this
    omega
  · have : q * 1 ≤ q * p := Int.mul_le_mul_of_nonneg_left (by omega) hq
    omega
theorem zip_len {f : Int} {xs ys : List Int} {n : Nat} (hx : xs.length = n) (hy : ys.length = n) : (List.zipWith (fun a b => f * a + b) xs ys).length = n := by
  rw [List.length_zipWith, hx, hy, Nat.min_self]
theorem zip_get {f : Int} {xs ys : List Int} {n : Nat} (hx : xs.length = n) (hy : ys.length = n) (c : Nat) : (List.zipWith (fun a b => f * a + b) xs ys).getD c 0 = f * xs.getD c 0 + ys.getD c 0 := by
  by_cases h : c < n
  · rw [List.getD_eq_getElem?_getD, List.getD_eq_getElem?_getD, List.getD_eq_getElem?_getD, List.getElem?_zipWith, List.getElem?_eq_getElem (by omega), List.getElem?_eq_getElem (by omega)]
    rfl
  · rw [List.getD_eq_getElem?_getD, List.getD_eq_getElem?_getD, List.getD_eq_getElem?_getD, List.getElem?_eq_none (by rw [zip_len hx hy]; omega), List.getElem?_eq_none (by omega), List.getElem?_eq_none (by omega)]
    simp
theorem getD_set {α : Type} {xs : List α} {i j : Nat} {x d : α} (h : i < xs.length) : (xs.set i x).getD j d = if i = j then x else xs.getD j d := by
  by_cases e : i = j
  · subst e
    rw [if_pos rfl, List.getD_eq_getElem?_getD, List.getElem?_set_self h]
    rfl
  · rw [if_neg e, List.getD_eq_getElem?_getD, List.getElem?_set_ne e, List.getD_eq_getElem?_getD]
theorem getD_ge {α : Type} {xs : List α} {i : Nat} {d : α} (h : xs.length ≤ i) : xs.getD i d = d := by
  rw [List.getD_eq_getElem?_getD, List.getElem?_eq_none h]
  rfl
/-- rows on ascending columns; the first i columns reduced, of column i the rows below j; sizes -/
structure Red (n : Nat) (cols : List Nat) (e i j : Nat) (rs : List (List Int)) : Prop where
  len : rs.length = cols.length
  row : ∀ h < rs.length, (rs.getD h []).length = n
  zer : ∀ h < rs.length, ∀ c < cols.getD h 0, ent rs h c = 0
  pos : ∀ h < rs.length, 0 < ent rs h (cols.getD h 0)
  red : ∀ g < i, ∀ h < g, 0 ≤ ent rs h (cols.getD g 0) ∧ ent rs h (cols.getD g 0) < ent rs g (cols.getD g 0)
  rdj : ∀ h < j, 0 ≤ ent rs h (cols.getD i 0) ∧ ent rs h (cols.getD i 0) < ent rs i (cols.getD i 0)
  bnd0 : ∀ h, i ≤ h → ∀ c, (ent rs h c).natAbs < 2 ^ e
  bnd1 : ∀ h, h < j → ∀ c, (ent rs h c).natAbs < 2 ^ ((e + 1) * (i + 2))
  bnd2 : ∀ h, h < i → j ≤ h → ∀ c, (ent rs h c).natAbs < 2 ^ ((e + 1) * (i + 1))
theorem cols_lt {cols : List Nat} (asc : cols.Pairwise (· < ·)) {i j : Nat} (hij : i < j) (hj : j < cols.length) : cols.getD i 0 < cols.getD j 0 := by
  rw [List.getD_eq_getElem?_getD, List.getD_eq_getElem?_getD, List.getElem?_eq_getElem (by omega), List.getElem?_eq_getElem hj]
  exact List.pairwise_iff_getElem.mp asc i j (by omega) hj hij
theorem ent_set {rs : List (List Int)} {j : Nat} {new : List Int} (hj : j < rs.length) (h c : Nat) : ent (rs.set j new) h c = if j = h then new.getD c 0 else ent rs h c := by
  unfold ent
  rw [getD_set hj]
  split <;> rfl
theorem Red.step {n e i j : Nat} {cols : List Nat} {rs : List (List Int)} (R : Red n cols e i j rs) (asc : cols.Pairwise (· < ·)) (hj : j < i) (hi : i < rs.length) (q : Int) (hq : q = (ent rs j (cols.getD i 0)).fdiv (ent rs i (cols.getD i 0))) :
    Red n cols e i (j + 1) (rs.set j (List.zipWith (fun a b => (0 - q) * a + b) (rs.getD i []) (rs.getD j []))) := by
  have hj' : j < rs.length := by omega
  have hg : ∀ c, (List.zipWith (fun a b => (0 - q) * a + b) (rs.getD i []) (rs.getD j [])).getD c 0 = (0 - q) * ent rs i c + ent rs j c := fun c => zip_get (R.row i hi) (R.row j hj') c
  have hE : ∀ h c, ent (rs.set j (List.zipWith (fun a b => (0 - q) * a + b) (rs.getD i []) (rs.getD j []))) h c = if j = h then (0 - q) * ent rs i c + ent rs j c else ent rs h c := fun h c => by rw [ent_set hj', hg]
  have hcol : ∀ g, g < i → cols.getD g 0 < cols.getD i 0 := fun g hg => cols_lt asc hg (by rw [← R.len]; exact hi)
  refine ⟨by rw [List.length_set]; exact R.len, fun h hh => ?_, fun h hh c hc => ?_, fun h hh => ?_, fun g hg' h hh => ?_, fun h hh => ?_, fun h hh c => ?_, fun h hh c => ?_, fun h hh hh2 c => ?_⟩
  · rw [List.length_set] at hh
    rw [getD_set hj']
    split
    · exact zip_len (R.row i hi) (R.row j hj')
    · exact R.row h hh
  · rw [List.length_set] at hh
    rw [hE]
    split
    · rename_i e
      subst e
      rw [R.zer j hh c hc, R.zer i hi c (by have := hcol j hj; omega)]
      simp
    · exact R.zer h hh c hc
  · rw [List.length_set] at hh
    rw [hE]
    split
    · rename_i e
      subst e
      rw [R.zer i hi _ (hcol j hj)]
      have := R.pos j hh
      simpa using this
    · exact R.pos h hh
  · have z : ent rs i (cols.getD g 0) = 0 := R.zer i hi _ (hcol g hg')
    have r := R.red g hg' h hh
    rw [hE, hE, z]
    simp only [Int.mul_zero, Int.zero_add]
    by_cases e1 : j = h
    · subst e1
      rw [if_pos rfl]
      by_cases e2 : j = g
      · omega
      · rw [if_neg e2]; exact r
    · rw [if_neg e1]
      by_cases e2 : j = g
      · subst e2; rw [if_pos rfl]; exact r
      · rw [if_neg e2]; exact r
  · rw [hE, hE, if_neg (show ¬ j = i by omega)]
    by_cases e1 : j = h
    · subst e1
      rw [if_pos rfl]
      have hp := R.pos i hi
      have h1 := Int.mul_fdiv_add_fmod (ent rs j (cols.getD i 0)) (ent rs i (cols.getD i 0))
      have h2 := fmod_rng (i := ent rs j (cols.getD i 0)) hp
      rw [← hq] at h1
      have h3 : (0 - q) * ent rs i (cols.getD i 0) = - (ent rs i (cols.getD i 0) * q) := by rw [Int.zero_sub, Int.neg_mul, Int.mul_comm]
      rw [h3]
      omega
    · rw [if_neg e1]
      exact R.rdj h (by omega)
  · rw [hE, if_neg (show ¬ j = h by omega)]
    exact R.bnd0 h hh c
  · rw [hE]
    split
    · rename_i e1
      have b1 := R.bnd0 i (Nat.le_refl _) c
      have b2 := R.bnd2 j hj (Nat.le_refl _) c
      have b3 := R.bnd2 j hj (Nat.le_refl _) (cols.getD i 0)
      have b4 : q.natAbs < 2 ^ ((e + 1) * (i + 1)) := by
        rw [hq]
        exact Nat.lt_of_le_of_lt (fdiv_abs (R.pos i hi)) b3
      have b5 : ((0 - q) * ent rs i c).natAbs ≤ 2 ^ ((e + 1) * (i + 1)) * 2 ^ e := by
        rw [Int.natAbs_mul, Int.zero_sub, Int.natAbs_neg]
        exact Nat.mul_le_mul (Nat.le_of_lt b4) (Nat.le_of_lt b1)
      have b6 : (2 : Nat) ^ ((e + 1) * (i + 2)) = 2 ^ ((e + 1) * (i + 1)) * 2 ^ e * 2 := by
        rw [show (e + 1) * (i + 2) = (e + 1) * (i + 1) + e + 1 by rw [Nat.mul_add, Nat.mul_add]; omega, Nat.pow_succ, Nat.pow_add]
      have b7 : (2 : Nat) ^ ((e + 1) * (i + 1)) ≤ 2 ^ ((e + 1) * (i + 1)) * 2 ^ e := Nat.le_mul_of_pos_right _ (Nat.two_pow_pos _)
      rw [b6]
      have := Int.natAbs_add_le ((0 - q) * ent rs i c) (ent rs j c)
      omega
    · exact R.bnd1 h (by omega) c
  · rw [hE, if_neg (show ¬ j = h by omega)]
    exact R.bnd2 h hh (by omega) c
theorem Red.next {n e i : Nat} {cols : List Nat} {rs : List (List Int)} (R : Red n cols e i i rs) : Red n cols e (i + 1) 0 rs := by
  refine ⟨R.len, R.row, R.zer, R.pos, fun g hg h hh => ?_, fun h hh => absurd hh (Nat.not_lt_zero _), fun h hh => R.bnd0 h (by omega), fun h hh => absurd hh (Nat.not_lt_zero _), fun h hh _ c => ?_⟩
  · by_cases e1 : g = i
    · subst e1
      exact R.rdj h hh
    · exact R.red g (by omega) h hh
  · by_cases e1 : h = i
    · subst e1
      exact Nat.lt_of_lt_of_le (R.bnd0 h (Nat.le_refl _) c) (Nat.pow_le_pow_right (by decide) (by
        have : (e + 1) * 1 ≤ (e + 1) * (h + 1 + 1) := Nat.mul_le_mul_left _ (by omega)
        omega))
    · exact R.bnd1 h (by omega) c
theorem Red.piv {n e i j : Nat} {cols : List Nat} {rs : List (List Int)} (R : Red n cols e i j rs) {h : Nat} (hh : h < rs.length) (hc : cols.getD h 0 < n) : pv (rs.getD h []) = cols.getD h 0 := by
  refine pv_eq (by rw [R.row h hh]; exact hc) ?_ fun c hcc => R.zer h hh c hcc
  have : ent rs h (cols.getD h 0) ≠ 0 := by have := R.pos h hh; omega
  exact this
theorem Red.isB {n e j : Nat} {cols : List Nat} {rs : List (List Int)} (R : Red n cols e cols.length j rs) (asc : cols.Pairwise (· < ·)) (hc : ∀ c ∈ cols, c < n) : IsB n rs := by
  have hcn : ∀ h < rs.length, cols.getD h 0 < n := fun h hh => hc _ (getD_mem (by rw [← R.len]; exact hh))
  have hp : ∀ h < rs.length, pv (rs.getD h []) = cols.getD h 0 := fun h hh => R.piv hh (hcn h hh)
  have hm : rs.map pv = cols := by
    refine List.ext_getElem (by rw [List.length_map]; exact R.len) fun h h1 h2 => ?_
    rw [List.length_map] at h1
    rw [List.getElem_map]
    have := hp h h1
    rw [List.getD_eq_getElem?_getD, List.getElem?_eq_getElem h1, List.getD_eq_getElem?_getD, List.getElem?_eq_getElem h2] at this
    exact this
  refine ⟨fun r hr => ?_, fun r hr => ?_, by rw [hm]; exact asc, fun i hi => ?_, fun i hi k hk => ?_⟩
  · obtain ⟨h, hh, rfl⟩ := mem_getD (d := []) hr
    exact R.row h hh
  · obtain ⟨h, hh, rfl⟩ := mem_getD (d := []) hr
    rw [hp h hh]
    exact hcn h hh
  · rw [hp i hi]
    exact Int.le_of_lt (R.pos i hi)
  · rw [hp i hi]
    exact R.red i (by rw [← R.len]; exact hi) k hk

/-- its sizes: pivots below 2 ^ e, other entries below 2 ^ e2 at first -/
structure RedB (cols : List Nat) (e e2 i j : Nat) (rs : List (List Int)) : Prop where
  p : ∀ h < rs.length, (ent rs h (cols.getD h 0)).natAbs < 2 ^ e
  u0 : ∀ h, i ≤ h → ∀ c, c ≠ cols.getD h 0 → (ent rs h c).natAbs < 2 ^ e2
  u1 : ∀ h, h < j → ∀ c, (∀ g ≤ i, c ≠ cols.getD g 0) → (ent rs h c).natAbs < 2 ^ ((e2 + 1) * (i + 1))
  u2 : ∀ h, h < i → j ≤ h → ∀ c, (∀ g < i, c ≠ cols.getD g 0) → (ent rs h c).natAbs < 2 ^ ((e2 + 1) * i)
theorem RedB.step {n e0 e e2 i j : Nat} {cols : List Nat} {rs : List (List Int)} (U : RedB cols e e2 i j rs) (R : Red n cols e0 i j rs) (asc : cols.Pairwise (· < ·)) (hj : j < i) (hi : i < rs.length) (q : Int) (hq : q = (ent rs j (cols.getD i 0)).fdiv (ent rs i (cols.getD i 0))) :
    RedB cols e e2 i (j + 1) (rs.set j (List.zipWith (fun a b => (0 - q) * a + b) (rs.getD i []) (rs.getD j []))) := by
  have hj' : j < rs.length := by omega
  have hg : ∀ c, (List.zipWith (fun a b => (0 - q) * a + b) (rs.getD i []) (rs.getD j [])).getD c 0 = (0 - q) * ent rs i c + ent rs j c := fun c => zip_get (R.row i hi) (R.row j hj') c
  have hE : ∀ h c, ent (rs.set j (List.zipWith (fun a b => (0 - q) * a + b) (rs.getD i []) (rs.getD j []))) h c = if j = h then (0 - q) * ent rs i c + ent rs j c else ent rs h c := fun h c => by rw [ent_set hj', hg]
  have hcol : ∀ g, g < i → cols.getD g 0 < cols.getD i 0 := fun g hg => cols_lt asc hg (by rw [← R.len]; exact hi)
  refine ⟨fun h hh => ?_, fun h hh c hc => ?_, fun h hh c hc => ?_, fun h hh hh2 c hc => ?_⟩
  · rw [List.length_set] at hh
    rw [hE]
    split
    · rename_i e
      subst e
      rw [R.zer i hi _ (hcol j hj)]
      simpa using U.p j hh
    · exact U.p h hh
  · rw [hE, if_neg (show ¬ j = h by omega)]
    exact U.u0 h hh c hc
  · rw [hE]
    split
    · rename_i e1
      have b1 := U.u0 i (Nat.le_refl _) c (hc i (Nat.le_refl _))
      have b2 := U.u2 j hj (Nat.le_refl _) c fun g hg => hc g (by omega)
      have b3 := U.u2 j hj (Nat.le_refl _) (cols.getD i 0) fun g hg => by have := hcol g hg; omega
      have b4 : q.natAbs < 2 ^ ((e2 + 1) * i) := by
        rw [hq]
        exact Nat.lt_of_le_of_lt (fdiv_abs (R.pos i hi)) b3
      have b5 : ((0 - q) * ent rs i c).natAbs ≤ 2 ^ ((e2 + 1) * i) * 2 ^ e2 := by
        rw [Int.natAbs_mul, Int.zero_sub, Int.natAbs_neg]
        exact Nat.mul_le_mul (Nat.le_of_lt b4) (Nat.le_of_lt b1)
      have b6 : (2 : Nat) ^ ((e2 + 1) * (i + 1)) = 2 ^ ((e2 + 1) * i) * 2 ^ e2 * 2 := by
        rw [show (e2 + 1) * (i + 1) = (e2 + 1) * i + e2 + 1 by rw [Nat.mul_add]; omega, Nat.pow_succ, Nat.pow_add]
      have b7 : (2 : Nat) ^ ((e2 + 1) * i) ≤ 2 ^ ((e2 + 1) * i) * 2 ^ e2 := Nat.le_mul_of_pos_right _ (Nat.two_pow_pos _)
      rw [b6]
      have := Int.natAbs_add_le ((0 - q) * ent rs i c) (ent rs j c)
      omega
    · exact U.u1 h (by omega) c hc
  · rw [hE, if_neg (show ¬ j = h by omega)]
    exact U.u2 h hh (by omega) c hc
theorem RedB.next {e e2 i : Nat} {cols : List Nat} {rs : List (List Int)} (U : RedB cols e e2 i i rs) : RedB cols e e2 (i + 1) 0 rs := by
  refine ⟨U.p, fun h hh => U.u0 h (by omega), fun h hh => absurd hh (Nat.not_lt_zero _), fun h hh _ c hc => ?_⟩
  by_cases e1 : h = i
  · subst e1
    exact Nat.lt_of_lt_of_le (U.u0 h (Nat.le_refl _) c (hc h (Nat.lt_succ_self _))) (Nat.pow_le_pow_right (by decide) (by
      have : (e2 + 1) * 1 ≤ (e2 + 1) * (h + 1) := Nat.mul_le_mul_left _ (by omega)
      omega))
  · exact U.u1 h (by omega) c fun g hg => hc g (by omega)
theorem RedB.all {n e0 e e2 : Nat} {cols : List Nat} {rs : List (List Int)} (U : RedB cols e e2 cols.length 0 rs) (R : Red n cols e0 cols.length 0 rs) (asc : cols.Pairwise (· < ·)) {h : Nat} (hh : h < rs.length) (c : Nat) : (ent rs h c).natAbs < 2 ^ max e ((e2 + 1) * cols.length) := by
  have m1 : (2 : Nat) ^ e ≤ 2 ^ max e ((e2 + 1) * cols.length) := Nat.pow_le_pow_right (by decide) (Nat.le_max_left _ _)
  have m2 : (2 : Nat) ^ ((e2 + 1) * cols.length) ≤ 2 ^ max e ((e2 + 1) * cols.length) := Nat.pow_le_pow_right (by decide) (Nat.le_max_right _ _)
  have hl := R.len
  by_cases w : ∃ g, g < cols.length ∧ c = cols.getD g 0
  · obtain ⟨g, hg, rfl⟩ := w
    refine Nat.lt_of_lt_of_le ?_ m1
    by_cases e1 : g < h
    · have z : ent rs h (cols.getD g 0) = 0 := R.zer h hh _ (cols_lt asc e1 (by omega))
      rw [z]
      exact Nat.two_pow_pos _
    · by_cases e3 : g = h
      · subst e3; exact U.p g hh
      · have r := R.red g hg h (by omega)
        have := U.p g (by omega)
        omega
  · refine Nat.lt_of_lt_of_le (U.u2 h (by omega) (Nat.zero_le _) c fun g hg e => w ⟨g, hg, e⟩) m2
theorem wp_intB {k : Bool} {st : Sto} {Q : D → Sto → Prop} (q : Q (.int (if k then 1 else 0)) st) : Wp (intD (.bl k)) st Q := ⟨_, _, rfl, q⟩
theorem plD_row (n : Nat) (xs : List Int) : plD (n + 1) (rowD xs) = true := by simpa only [rowD, plD] using plDs_ints n xs
theorem plD_mat (n : Nat) (rs : List (List Int)) : plD (n + 2) (matD rs) = true := by
  simp only [matD, plD]
  refine plDs_all fun d hd => ?_
  obtain ⟨r, _, rfl⟩ := List.mem_map.mp hd
  exact plD_row n r
theorem puD_app {xs ys : List D} : puD (.tup (xs ++ ys)) = (puD (.tup xs) && puD (.tup ys)) := by
  simp only [puD]
  induction xs with
  | nil => simp [puDs]
  | cons x xs ih => simp only [List.cons_append, puDs, ih, Bool.and_assoc]
theorem puD_sub {xs ys : List D} (h : puD (.tup ys) = true) (hs : ∀ x ∈ xs, x ∈ ys) : puD (.tup xs) = true := by
  simp only [puD] at h ⊢
  exact puDs_iff.mpr fun x hx => puDs_iff.mp h x (hs x hx)
theorem puD_in {xs : List D} (h : puD (.tup xs) = true) {x : D} (hx : x ∈ xs) : puD x = true := puDs_iff.mp (by simpa only [puD] using h) x hx
theorem puD_one {x : D} (h : puD x = true) : puD (.tup [x]) = true := by simp only [puD, puDs, h, Bool.and_self]
theorem puD_ints (xs : List Int) : puD (.tup (xs.map .int)) = true := puD_row xs
theorem wp_repT {xs : List D} {j : Int} {st : Sto} {Q : D → Sto → Prop} (hx : xs.isEmpty = false) (h1 : 0 ≤ j) (h2 : j ≤ 1000) (h3 : xs.length ≤ 1000) (q : Q (.tup (List.replicate j.toNat xs).flatten) st) : Wp (repD (.tup xs) (.int j)) st Q := by
  by_cases e0 : j = 0
  · subst e0
    exact ⟨_, _, by simp only [repD, hx, and_self, if_true]; rfl, q⟩
  by_cases e : j = 1
  · subst e
    have : (List.replicate (1 : Int).toNat xs).flatten = xs := by simp
    rw [this] at q
    exact ⟨_, _, rfl, q⟩
  · refine ⟨_, _, ?_, q⟩
    simp only [repD, e, e0, if_false, false_and]
    refine okIf_true ?_
    rw [Bool.and_eq_true, hx]
    exact ⟨rfl, decide_eq_true ⟨by omega, h2, h3⟩⟩

theorem asc_len {n : Nat} : ∀ {l : List Nat} {lo : Nat}, l.Pairwise (· < ·) → (∀ x ∈ l, lo ≤ x ∧ x < n) → l.length ≤ n - lo
  | [], _, _, _ => Nat.zero_le _
  | x :: l, lo, p, h => by
    rw [List.pairwise_cons] at p
    have h1 := h x (by simp)
    have := asc_len (lo := x + 1) p.2 fun y hy => ⟨p.1 y hy, (h y (by simp [hy])).2⟩
    rw [List.length_cons]
    omega
theorem IsB.count {n : Nat} {rs : List (List Int)} (b : IsB n rs) : rs.length ≤ n := by
  have := asc_len (lo := 0) b.asc fun x hx => ⟨Nat.zero_le _, by
    obtain ⟨r, hr, rfl⟩ := List.mem_map.mp hx
    exact b.piv r hr⟩
  rwa [List.length_map] at this
theorem wp_isBl {j k : Bool} {st : Sto} {Q : D → Sto → Prop} (q : Q (.bl (decide (j = k))) st) : Wp (isD false (.bl j) (.bl k)) st Q := ⟨_, _, rfl, by rw [Bool.false_xor]; exact q⟩
theorem wp_neB {j k : Bool} {st : Sto} {Q : D → Sto → Prop} (q : Q (.bl (j != k)) st) : Wp (eqD true (.bl j) (.bl k)) st Q := wp_neP (a' := .bl j) (b' := .bl k) (n := 0) (m := 0) rfl rfl rfl rfl (by decide) (by decide) q
theorem wp_eqB {j k : Bool} {st : Sto} {Q : D → Sto → Prop} (q : Q (.bl (j == k)) st) : Wp (eqD false (.bl j) (.bl k)) st Q := wp_eqP (a' := .bl j) (b' := .bl k) (n := 0) (m := 0) rfl rfl rfl rfl (by decide) (by decide) q
end Mir

namespace Mir
open PySem PySem.Spec PyProof.Rows L2

section
variable {a b k : Nat} {st : Sto} {Q : D → Sto → Prop} {env : Env}
theorem wp_frzD {n : Nat} {xs : List D} (h : st[n]? = some (.lst xs)) (q : Q (.lst xs) (st.set n .dead)) : Wp (frzD (.obj n)) st Q := ⟨_, _, by simp only [frzD, h], q⟩
theorem wp_frz {m : Env → M D} (h : Wp (m env) st fun d st1 => Wp (frzD d) st1 Q) : Wp (eFrz m env) st Q := Wp.bind h
/-- a comprehension's list as a value: its elements functions of the items -/
theorem wl_fmap {mi : Env → M Src} {t : Tg} {me : Env → M D} {vs : List Nat} (f : D → D) (h : Wp (mi env) st fun src st1 => src.1.length ≤ 1000000 ∧ (∀ st', Kp [] st1 st' → src.2 st') ∧
    (∀ d ∈ src.1, ∀ st2, Kp [] st1 st2 → ∃ env1, tgD t d (wipeE env vs) = some env1 ∧ Wp (me env1) st2 fun y st3 => y = f d ∧ Kp [] st2 st3) ∧ ∀ st', Kp [] st1 st' → Q (.lst (src.1.map f)) st') :
    Wp (eFrz (eLC mi t (fun _ => pure true) me vs) env) st Q := by
  refine wp_frz (wl_map f (h.mono fun src st1 ⟨h1, h2, h3, h4⟩ => ⟨h1, h2, h3, fun st' k g => wp_frzD g (h4 _ (k.set (.inl (Nat.le_refl _)) _))⟩))
/-- the same with a test -/
theorem wl_ffilter {mi : Env → M Src} {t : Tg} {mt : Env → M Bool} {me : Env → M D} {vs : List Nat} (g : D → Bool) (f : D → D) (h : Wp (mi env) st fun src st1 => src.1.length ≤ 1000000 ∧ (∀ st', Kp [] st1 st' → src.2 st') ∧
    (∀ d ∈ src.1, ∀ st2, Kp [] st1 st2 → ∃ env1, tgD t d (wipeE env vs) = some env1 ∧ Wp (mt env1) st2 fun c st3 => c = g d ∧ Kp [] st2 st3 ∧ (c = true → Wp (me env1) st3 fun y st4 => y = f d ∧ Kp [] st3 st4)) ∧ ∀ st', Kp [] st1 st' → Q (.lst ((src.1.filter g).map f)) st') :
    Wp (eFrz (eLC mi t mt me vs) env) st Q := by
  refine wp_frz (wl_filter g f (h.mono fun src st1 ⟨h1, h2, h3, h4⟩ => ⟨h1, h2, h3, fun st' k g => wp_frzD g (h4 _ (k.set (.inl (Nat.le_refl _)) _))⟩))
/-- elements that are drawn: k1 draws ahead, at most c for each item -/
theorem wl_fs {mi : Env → M Src} {t : Tg} {mt : Env → M Bool} {me : Env → M D} {vs : List Nat}
    (h : Wp (mi env) st fun src st1 => (∀ s, src.2 s) ∧ Kp [a, b] st st1 ∧ ∃ (k1 c : Nat) (P : Nat → List D → Prop), Strm a b k1 st1 ∧ P 0 [] ∧
      (∀ i d acc s k', src.1[i]? = some d → P i acc → Strm a b k' s → k' ≤ k1 + c * i → Kp [a, b] st1 s → ∃ env1, tgD t d (wipeE env vs) = some env1 ∧ Wp (mt env1) s fun cc s1 =>
        if cc then Wp (me env1) s1 fun y s2 => acc.length + 1 ≤ 1000000 ∧ P (i + 1) (acc ++ [y]) ∧ Kp [a, b] s s2 ∧ ∃ k2, Strm a b k2 s2 ∧ k2 ≤ k' + c
        else P (i + 1) acc ∧ Kp [a, b] s s1 ∧ ∃ k2, Strm a b k2 s1 ∧ k2 ≤ k' + c) ∧
      ∀ acc s k', P src.1.length acc → Strm a b k' s → k' ≤ k1 + c * src.1.length → Kp [a, b] st1 s → Q (.lst acc) s) : Wp (eFrz (eLC mi t mt me vs) env) st Q := by
  obtain ⟨src, st1, e, hck, K0, k1, c, P, S1, p0, step, fin⟩ := h
  have hnin := S1.nin (Nat.le_refl st1.length)
  have cs : ∀ i : Nat, c * (i + 1) = c * i + c := fun i => Nat.mul_succ c i
  refine wp_frz ((wp_lc e (fun i acc s => P i acc ∧ s[st1.length]? = some (.lst acc) ∧ Kp [a, b] st1 s ∧ ∃ k', Strm a b k' s ∧ k' ≤ k1 + c * i) ?_ (fun _ _ s _ => hck s) ?_).mono ?_)
  · exact ⟨p0, app_get, Kp.app _ _ _, k1, S1.app _, Nat.le_refl _⟩
  · rintro i d acc s hd ⟨p, g, K, k', S, hk⟩
    obtain ⟨env1, e1, w⟩ := step i d acc s k' hd p S hk K
    refine ⟨env1, e1, w.mono fun cc s1 q => ?_⟩
    cases cc with
    | false =>
      rw [if_neg (by simp)] at q ⊢
      obtain ⟨p', K', k2, S', h2⟩ := q
      exact ⟨p', K'.at' _ _ hnin g, K.trans K', k2, S', by rw [cs]; omega⟩
    | true =>
      rw [if_pos rfl] at q ⊢
      refine q.mono fun y s2 ⟨hz, p', K', k2, S', h2⟩ => ?_
      have g2 := K'.at' _ _ hnin g
      exact ⟨g2, hz, p', set_get g2, (K.trans K').set (.inl (Nat.le_refl _)) _, k2, S'.set hnin _, by rw [cs]; omega⟩
  · rintro d s ⟨rfl, acc, p, g, K, k', S, hk⟩
    exact wp_frzD g (fin acc _ k' p (S.set hnin _) hk (K.set (.inl (Nat.le_refl _)) _))
end

/-! ### what is shown -/
mutual
/-- plain data without texts, at most n levels deep, ints below 1900 bits -/
def shD : Nat → D → Bool
  | _, .non => true
  | _, .bl _ => true
  | _, .int i => decide (i.natAbs.log2 < 1920)
  | n + 1, .tup xs => shDs n xs
  | n + 1, .lst xs => shDs n xs
  | _, _ => false
def shDs : Nat → List D → Bool
  | _, [] => true
  | n, x :: xs => shD n x && shDs n xs
end
mutual
def bkD : D → Nat
  | .tup xs => bkDs xs
  | .lst xs => bkDs xs
  | _ => 0
def bkDs : List D → Nat
  | [] => 0
  | x :: xs => bkD x + 1 + bkDs xs
end
mutual
theorem shD_py : ∀ (n : Nat) (d : D), shD n d = true → ∃ p, toPy d = some p ∧ p.showable = true ∧ p.hasDict = false ∧ p.depth ≤ n + 1 ∧ p.leavesShort 1921 = true ∧ p.bulk = bkD d
  | _, .non, _ => ⟨_, rfl, rfl, rfl, by simp [PyData.depth], rfl, rfl⟩
  | _, .bl _, _ => ⟨_, rfl, rfl, rfl, by simp [PyData.depth], rfl, rfl⟩
  | _, .int i, h => by
    have h1 : i.natAbs.log2 < 1920 := by simpa [shD] using h
    refine ⟨_, rfl, by simpa [PyData.showable] using h1, rfl, by simp [PyData.depth], ?_, rfl⟩
    simp only [PyData.leavesShort, decide_eq_true_eq]
    exact PyProof.Rows.int_text_len_1921 h1
  | 0, .tup _, h => by simp [shD] at h
  | 0, .lst _, h => by simp [shD] at h
  | n + 1, .tup xs, h => by
    obtain ⟨ps, e, h1, h2, h3, h4, h5⟩ := shDs_py n xs (by simpa only [shD] using h)
    refine ⟨.tuple ps, by simp only [toPy, e, Option.map_some], by simpa only [PyData.showable] using h1, by simpa only [PyData.hasDict] using h2, ?_, by simpa only [PyData.leavesShort] using h4, by simpa only [PyData.bulk, bkD] using h5⟩
    simp only [PyData.depth]
    omega
  | n + 1, .lst xs, h => by
    obtain ⟨ps, e, h1, h2, h3, h4, h5⟩ := shDs_py n xs (by simpa only [shD] using h)
    refine ⟨.list ps, by simp only [toPy, e, Option.map_some], by simpa only [PyData.showable] using h1, by simpa only [PyData.hasDict] using h2, ?_, by simpa only [PyData.leavesShort] using h4, by simpa only [PyData.bulk, bkD] using h5⟩
    simp only [PyData.depth]
    omega
  | _, .str _, h => by simp [shD] at h
  | _, .obj _, h => by simp [shD] at h
  | _, .scr _, h => by simp [shD] at h
theorem shDs_py : ∀ (n : Nat) (ds : List D), shDs n ds = true → ∃ ps, toPys ds = some ps ∧ PyData.showableAll ps = true ∧ PyData.hasDictAll ps = false ∧ PyData.depthAll ps ≤ n + 1 ∧ PyData.leavesShortAll 1921 ps = true ∧ PyData.bulkAll ps = bkDs ds
  | _, [], _ => ⟨[], rfl, rfl, rfl, by simp [PyData.depthAll], rfl, rfl⟩
  | n, x :: xs, h => by
    have h' := Bool.and_eq_true_iff.mp (by simpa only [shDs] using h)
    obtain ⟨p, e, a1, a2, a3, a4, a5⟩ := shD_py n x h'.1
    obtain ⟨ps, e2, b1, b2, b3, b4, b5⟩ := shDs_py n xs h'.2
    refine ⟨p :: ps, by simp only [toPys, e, e2], by simp only [PyData.showableAll, a1, b1, Bool.and_self], by simp only [PyData.hasDictAll, a2, b2, Bool.or_self], ?_, by simp only [PyData.leavesShortAll, a4, b4, Bool.and_self], by simp only [PyData.bulkAll, bkDs, a5, b5]⟩
    simp only [PyData.depthAll]
    omega
end
def isDispD : D → Bool
  | .tup _ => true
  | .lst _ => true
  | _ => false
theorem isDisp_py {d : D} {p : PyData} (h : toPy d = some p) (hd : isDispD d = true) : isDisp p = true := by
  cases d with
  | tup xs => cases e : toPys xs <;> simp [toPy, e] at h; subst h; rfl
  | lst xs => cases e : toPys xs <;> simp [toPy, e] at h; subst h; rfl
  | _ => cases hd
/-- the text of a display: some text, the same for the same data -/
noncomputable def shownOf (d : D) : Str := match toPy d with
  | some p => p.shown
  | none => default
theorem wp_shown {d d' : D} {n : Nat} {st : Sto} {Q : D → Sto → Prop} (e : resolve st d = d') (h : shD n d' = true) (hn : n ≤ 50) (hd : isDispD d' = true) (hb : bkD d' ≤ 8000) (q : Q (.str (shownOf d')) st) : Wp (shownD d) st Q := by
  obtain ⟨p, e1, h1, h2, h3, h4, h5⟩ := shD_py n d' h
  refine ⟨_, st, ?_, q⟩
  simp only [shownD, e, e1, shownOf]
  refine okIf_true ?_
  simp only [shP, h1, h2, h4, isDisp_py e1 hd, Bool.not_false, Bool.and_true, Bool.true_and, Bool.and_eq_true, decide_eq_true_eq]
  omega
theorem shDs_all {n : Nat} : ∀ {ds : List D}, (∀ d ∈ ds, shD n d = true) → shDs n ds = true
  | [], _ => by simp [shDs]
  | d :: ds, h => by simp only [shDs, h d (by simp), shDs_all (ds := ds) (fun e he => h e (List.mem_cons_of_mem _ he)), Bool.and_self]
theorem bkDs_all {m : Nat} : ∀ {ds : List D}, (∀ d ∈ ds, bkD d ≤ m) → bkDs ds ≤ (m + 1) * ds.length
  | [], _ => by simp [bkDs]
  | d :: ds, h => by
    have a := h d (by simp)
    have b := bkDs_all (ds := ds) fun e he => h e (List.mem_cons_of_mem _ he)
    simp only [bkDs, List.length_cons, Nat.mul_succ]
    omega
theorem shDs_ints {n : Nat} {xs : List Int} (h : ∀ x ∈ xs, x.natAbs.log2 < 1920) : shDs n (xs.map .int) = true := shDs_all fun d hd => by
  obtain ⟨i, hi, rfl⟩ := List.mem_map.mp hd
  cases n <;> simpa [shD] using h i hi
theorem bkDs_ints (xs : List Int) : bkDs (xs.map .int) ≤ xs.length := by
  have := bkDs_all (m := 0) (ds := xs.map .int) fun d hd => by
    obtain ⟨i, hi, rfl⟩ := List.mem_map.mp hd
    simp [bkD]
  simpa using this
theorem wp_eqS {neg : Bool} {x : Str} {st : Sto} {Q : D → Sto → Prop} (q : Q (.bl (!neg)) st) : Wp (eqS neg (.str x) (.str x)) st Q := ⟨_, _, rfl, by
  cases neg
  · simpa using q
  · simpa using q⟩
mutual
theorem shD_up : ∀ {n m : Nat} {d : D}, shD n d = true → n ≤ m → shD m d = true
  | _, _, .non, _, _ => by simp [shD]
  | _, _, .bl _, _, _ => by simp [shD]
  | _, _, .int i, h, _ => by simpa [shD] using h
  | 0, _, .tup _, h, _ => by simp [shD] at h
  | 0, _, .lst _, h, _ => by simp [shD] at h
  | n + 1, m, .tup xs, h, hm => by
    obtain ⟨m', rfl⟩ : ∃ m', m = m' + 1 := ⟨m - 1, by omega⟩
    simp only [shD] at h ⊢
    exact shDs_up h (by omega)
  | n + 1, m, .lst xs, h, hm => by
    obtain ⟨m', rfl⟩ : ∃ m', m = m' + 1 := ⟨m - 1, by omega⟩
    simp only [shD] at h ⊢
    exact shDs_up h (by omega)
  | _, _, .str _, h, _ => by simp [shD] at h
  | _, _, .obj _, h, _ => by simp [shD] at h
  | _, _, .scr _, h, _ => by simp [shD] at h
theorem shDs_up : ∀ {n m : Nat} {ds : List D}, shDs n ds = true → n ≤ m → shDs m ds = true
  | _, _, [], _, _ => by simp [shDs]
  | n, m, x :: xs, h, hm => by
    have h' := Bool.and_eq_true_iff.mp (by simpa only [shDs] using h)
    simp only [shDs, shD_up h'.1 hm, shDs_up h'.2 hm, Bool.and_self]
end
/-- x is None, x is not None -/
def nonB : D → Bool
  | .non => true
  | _ => false
theorem wp_isNon {neg k : Bool} {d : D} {st : Sto} {Q : D → Sto → Prop} (hl : liveB st d = true) (hk : (xor neg (nonB d)) = k) (q : Q (.bl k) st) : Wp (isD neg d .non) st Q := by
  subst hk
  refine ⟨_, _, ?_, q⟩
  simp only [isD, hl, if_true]
  cases d <;> rfl
theorem wp_isiN {Ts : List String} {d : D} {t : String} {st : Sto} {Q : D → Sto → Prop} (b : Bool) (ht : tyD st d = some t) (hk : Ts.all (kitOk t) = true) (hb : Ts.any (subT t) = b) (q : Q (.bl b) st) : Wp (isiD Ts d) st Q := ⟨_, _, by simp only [isiD, ht]; exact okIf_true hk, by rw [hb]; exact q⟩
end Mir

namespace Lat

/-! ### sums -/
def sm : Nat → (Nat → Int) → Int
  | 0, _ => 0
  | n + 1, f => sm n f + f n
theorem sm_congr {f g : Nat → Int} : ∀ {n : Nat}, (∀ i < n, f i = g i) → sm n f = sm n g
  | 0, _ => rfl
  | n + 1, h => by simp only [sm, sm_congr (n := n) fun i hi => h i (by omega), h n (by omega)]
theorem sm_zero : ∀ {n : Nat} {f : Nat → Int}, (∀ i < n, f i = 0) → sm n f = 0
  | 0, _, _ => rfl
  | n + 1, f, h => by simp only [sm, sm_zero (n := n) fun i hi => h i (by omega), h n (by omega), Int.add_zero]
theorem sm_add {f g : Nat → Int} : ∀ {n : Nat}, sm n (fun i => f i + g i) = sm n f + sm n g
  | 0 => rfl
  | n + 1 => by simp only [sm, sm_add (n := n)]; omega
theorem sm_one {f : Nat → Int} {i : Nat} : ∀ {n : Nat}, i < n → (∀ j < n, j ≠ i → f j = 0) → sm n f = f i
  | n + 1, hi, h => by
    simp only [sm]
    by_cases e : i = n
    · subst e
      rw [sm_zero fun j hj => h j (by omega) (by omega)]
      omega
    · rw [sm_one (n := n) (by omega) fun j hj hne => h j (by omega) hne, h n (by omega) (Ne.symm e)]
      omega

/-! ### spans -/
abbrev Vf := Nat → Int
inductive Spn (S : Vf → Prop) : Vf → Prop
  | zero : Spn S fun _ => 0
  | add {g v : Vf} (k : Int) : S g → Spn S v → Spn S fun c => k * g c + v c
section
variable {S T : Vf → Prop} {u v g : Vf}
theorem Spn.cast (h : Spn S u) (e : ∀ c, u c = v c) : Spn S v := (funext e : u = v) ▸ h
theorem Spn.of (h : S g) : Spn S g := (Spn.add 1 h .zero).cast fun c => by first | omega | (dsimp only; omega)
theorem Spn.plus (h : Spn S u) (k : Spn S v) : Spn S fun c => u c + v c := by
  induction h with
  | zero => exact k.cast fun c => by first | omega | (dsimp only; omega)
  | @add g w a hg _ ih => exact (Spn.add a hg ih).cast fun c => by first | omega | (dsimp only; omega)
theorem Spn.mul (a : Int) (h : Spn S u) : Spn S fun c => a * u c := by
  induction h with
  | zero => exact Spn.zero.cast fun c => by simp
  | @add g w b hg _ ih => exact (Spn.add (a * b) hg ih).cast fun c => by rw [Int.mul_add, Int.mul_assoc]
theorem Spn.comb (a b : Int) (h : Spn S u) (k : Spn S v) : Spn S fun c => a * u c + b * v c := (h.mul a).plus (k.mul b)
theorem Spn.sub (h : Spn S u) (k : Spn S v) : Spn S fun c => u c - v c := (Spn.comb 1 (-1) h k).cast fun c => by first | omega | (dsimp only; omega)
theorem Spn.bind (h : Spn S u) (i : ∀ g, S g → Spn T g) : Spn T u := by
  induction h with
  | zero => exact .zero
  | @add g w a hg _ ih => exact (((i g hg).mul a).plus ih)
theorem Spn.mono (h : Spn S u) (i : ∀ g, S g → T g) : Spn T u := h.bind fun g hg => .of (i g hg)
/-- a property of all generators that sums keep -/
theorem Spn.all {P : Vf → Prop} (h : Spn S u) (h0 : P fun _ => 0) (ha : ∀ (k : Int) (g v : Vf), S g → P v → P fun c => k * g c + v c) : P u := by
  induction h with
  | zero => exact h0
  | @add g w a hg _ ih => exact ha a g w hg ih
end

/-! ### echelons -/
def Er (E : Nat → Option Vf) (g : Vf) : Prop := ∃ c, E c = some g
structure Ech (n : Nat) (E : Nat → Option Vf) : Prop where
  ok : ∀ c r, E c = some r → c < n ∧ (∀ j < c, r j = 0) ∧ 0 < r c
def eg (E : Nat → Option Vf) (c : Nat) : Vf := match E c with
  | some r => r
  | none => fun _ => 0
theorem ech_rep {n : Nat} {E : Nat → Option Vf} (h : Ech n E) {x : Vf} (hx : Spn (Er E) x) : ∃ k : Nat → Int, ∀ j, x j = sm n fun c => k c * eg E c j := by
  induction hx with
  | zero => exact ⟨fun _ => 0, fun j => (sm_zero fun i _ => by simp).symm⟩
  | @add g w a hg _ ih =>
    obtain ⟨k, hk⟩ := ih
    obtain ⟨c, hc⟩ := hg
    have hcn := (h.ok c g hc).1
    refine ⟨fun i => (if i = c then a else 0) + k i, fun j => ?_⟩
    have e : (fun i => ((if i = c then a else 0) + k i) * eg E i j) = fun i => (if i = c then a else 0) * eg E i j + k i * eg E i j := by
      funext i
      rw [Int.add_mul]
    rw [e, sm_add, ← hk j, sm_one (i := c) hcn fun i _ hne => by simp [hne]]
    simp only [if_true, eg, hc]
theorem ech_lead {n : Nat} {E : Nat → Option Vf} (h : Ech n E) {x : Vf} (hx : Spn (Er E) x) {c : Nat} (hz : ∀ j < c, x j = 0) : (∀ r, E c = some r → r c ∣ x c) ∧ (E c = none → x c = 0) := by
  obtain ⟨k, hk⟩ := ech_rep h hx
  have at' : ∀ i, i ≤ c → (∀ j < i, E j ≠ none → k j = 0) → x i = if i < n then k i * eg E i i else 0 := by
    intro i hi hj
    rw [hk i]
    have hother : ∀ j < n, j ≠ i → k j * eg E j i = 0 := by
      intro j _ hne
      cases e : E j with
      | none => simp [eg, e]
      | some r =>
        by_cases hlt : j < i
        · rw [hj j hlt (by rw [e]; simp), Int.zero_mul]
        · have := (h.ok j r e).2.1 i (by omega)
          simp only [eg, e, this, Int.mul_zero]
    by_cases hin : i < n
    · rw [if_pos hin, sm_one hin hother]
    · rw [if_neg hin]
      exact sm_zero fun j hj' => hother j hj' (by omega)
  have zero : ∀ i, i < c → E i ≠ none → k i = 0 := by
    intro i
    induction i using Nat.strongRecOn with
    | _ i ih =>
      intro hi hne
      have e1 := at' i (by omega) fun j hj => ih j hj (by omega)
      rw [hz i hi] at e1
      cases e : E i with
      | none => exact absurd e hne
      | some r =>
        have o := h.ok i r e
        rw [if_pos o.1] at e1
        simp only [eg, e] at e1
        rcases Int.mul_eq_zero.mp e1.symm with h0 | h0
        · exact h0
        · omega
  have e1 := at' c (Nat.le_refl _) fun j hj => zero j hj
  refine ⟨fun r e => ?_, fun e => ?_⟩
  · have o := h.ok c r e
    rw [if_pos o.1] at e1
    simp only [eg, e] at e1
    exact ⟨k c, by rw [e1, Int.mul_comm]⟩
  · rw [e1]
    simp [eg, e]
theorem ech_zero {n : Nat} {E : Nat → Option Vf} (h : Ech n E) {x : Vf} (hx : Spn (Er E) x) (hz : ∀ c r, E c = some r → (∀ j < c, x j = 0) → x c = 0) : ∀ c, x c = 0 := by
  intro c
  induction c using Nat.strongRecOn with
  | _ c ih =>
    cases e : E c with
    | none => exact (ech_lead h hx ih).2 e
    | some r => exact hz c r e ih

/-! ### certificates of a span -/
def fS : List (Nat × Vf) → Vf → Vf
  | [], _ => fun _ => 0
  | q :: L, x => fun c => x q.1 * q.2 c + fS L x c
theorem fS_lin (a b : Int) (u v : Vf) : ∀ (L : List (Nat × Vf)) (c : Nat), fS L (fun j => a * u j + b * v j) c = a * fS L u c + b * fS L v c
  | [], c => by simp [fS]
  | q :: L, c => by
    simp only [fS, fS_lin a b u v L c, Int.mul_add, Int.add_mul, Int.mul_assoc]
    omega
theorem fS_zero {x : Vf} {c : Nat} : ∀ {L : List (Nat × Vf)}, (∀ q ∈ L, x q.1 * q.2 c = 0) → fS L x c = 0
  | [], _ => rfl
  | q :: L, h => by simp only [fS, h q (by simp), fS_zero (L := L) fun q hq => h q (by simp [hq]), Int.add_zero]
theorem fS_one {x : Vf} {c : Nat} {q : Nat × Vf} : ∀ {L : List (Nat × Vf)}, q ∈ L → (L.map (·.1)).Nodup → (∀ q' ∈ L, q'.1 ≠ q.1 → x q'.1 * q'.2 c = 0) → fS L x c = x q.1 * q.2 c
  | q0 :: L, hq, hn, h => by
    rw [List.map_cons, List.nodup_cons] at hn
    rcases List.mem_cons.mp hq with rfl | hq
    · simp only [fS]
      rw [fS_zero fun q' hq' => h q' (by simp [hq']) fun e => hn.1 (e ▸ List.mem_map.mpr ⟨q', hq', rfl⟩)]
      omega
    · simp only [fS]
      rw [fS_one hq hn.2 fun q' hq' => h q' (by simp [hq']), h q0 (by simp) fun e => hn.1 (e ▸ List.mem_map.mpr ⟨q, hq, rfl⟩)]
      omega
theorem fS_abs {x : Vf} {c s t : Nat} : ∀ {L : List (Nat × Vf)}, (∀ q ∈ L, (x q.1).natAbs < 2 ^ s) → (∀ q ∈ L, (q.2 c).natAbs < 2 ^ t) → (fS L x c).natAbs ≤ L.length * 2 ^ (s + t)
  | [], _, _ => by simp [fS]
  | q :: L, h1, h2 => by
    have ih := fS_abs (L := L) (fun q hq => h1 q (by simp [hq])) fun q hq => h2 q (by simp [hq])
    have a := Nat.mul_le_mul (Nat.le_of_lt (h1 q (by simp))) (Nat.le_of_lt (h2 q (by simp)))
    rw [← Int.natAbs_mul, ← Nat.pow_add] at a
    have b := Int.natAbs_add_le (x q.1 * q.2 c) (fS L x c)
    simp only [fS, List.length_cons, Nat.add_mul, Nat.one_mul]
    omega
structure Cert (V : Vf → Prop) (n G : Nat) (d : Int) (L : List (Nat × Vf)) : Prop where
  dpos : 0 < d
  dsz : d.natAbs < 2 ^ G
  mem : ∀ q ∈ L, V q.2
  lt : ∀ q ∈ L, q.1 < n
  lead : ∀ q ∈ L, ∀ c < q.1, q.2 c = 0
  diag : ∀ q ∈ L, q.2 q.1 = d
  off : ∀ q ∈ L, ∀ q' ∈ L, q.1 ≠ q'.1 → q.2 q'.1 = 0
  nd : (L.map (·.1)).Nodup
  rel : ∀ x, V x → ∀ c, d * x c = fS L x c
  sz : ∀ q ∈ L, ∀ c, (q.2 c).natAbs < 2 ^ G
  top : ∀ q ∈ L, ∀ c, n ≤ c → q.2 c = 0
theorem Cert.lead_in {V : Vf → Prop} {n G : Nat} {d : Int} {L : List (Nat × Vf)} (C : Cert V n G d L) {x : Vf} (hx : V x) {c : Nat} (hz : ∀ j < c, x j = 0) (hc : x c ≠ 0) : ∃ e, (c, e) ∈ L := by
  refine Classical.byContradiction fun no => ?_
  have r := C.rel x hx c
  rw [fS_zero fun q hq => ?_] at r
  · rcases Int.mul_eq_zero.mp r with h | h
    · have := C.dpos
      omega
    · exact hc h
  · by_cases h1 : q.1 < c
    · rw [hz _ h1, Int.zero_mul]
    · by_cases h2 : q.1 = c
      · exact absurd ⟨q.2, by rw [← h2]; exact hq⟩ no
      · rw [C.lead q hq c (by omega), Int.mul_zero]
def gam (b : Nat) : Nat → Nat
  | 0 => 1
  | r + 1 => 2 * gam b r + b + 6
theorem gam_mono {b r s : Nat} (h : r ≤ s) : gam b r ≤ gam b s := by
  induction h with
  | refl => exact Nat.le_refl _
  | step h ih => simp only [gam]; omega
theorem Cert.nil (n b : Nat) : Cert (Spn fun _ => False) n (gam b 0) 1 [] where
  dpos := by decide
  dsz := by simp [gam]
  mem := by simp
  lt := by simp
  lead := by simp
  diag := by simp
  off := by simp
  nd := by simp
  rel := fun x hx c => by
    have : x = fun _ => 0 := hx.all (P := fun x => x = fun _ => 0) rfl fun k g v hg => hg.elim
    rw [this]
    simp [fS]
  sz := by simp
  top := by simp
theorem fS_mem {T : Vf → Prop} {x : Vf} : ∀ {L : List (Nat × Vf)}, (∀ q ∈ L, Spn T q.2) → Spn T (fS L x)
  | [], _ => Spn.zero
  | q :: L, h => ((h q (by simp)).mul (x q.1)).plus (fS_mem (L := L) fun q hq => h q (by simp [hq]))
theorem fS_map (a : Int) (c0 : Nat) (w : Vf) (x : Vf) (c : Nat) : ∀ L : List (Nat × Vf), fS (L.map fun q => (q.1, fun c => a * q.2 c - q.2 c0 * w c)) x c = a * fS L x c - fS L x c0 * w c
  | [] => by simp [fS]
  | q :: L => by
    simp only [List.map_cons, fS, fS_map a c0 w x c L, Int.mul_sub, Int.mul_add, Int.add_mul, Int.mul_assoc, Int.mul_left_comm]
    omega
theorem least {P : Nat → Prop} : ∀ n, P n → ∃ m, P m ∧ ∀ j < m, ¬ P j := by
  intro n
  induction n using Nat.strongRecOn with
  | _ n ih =>
    intro h
    by_cases e : ∃ j, j < n ∧ P j
    · obtain ⟨j, hj, hp⟩ := e
      exact ih j hj hp
    · exact ⟨n, h, fun j hj hp => e ⟨j, hj, hp⟩⟩
theorem Cert.step {S : Vf → Prop} {n G b : Nat} {d : Int} {L : List (Nat × Vf)} (C : Cert (Spn S) n G d L) {g : Vf} (hg : ∀ c, (g c).natAbs < 2 ^ b) (hn : ∀ c, n ≤ c → g c = 0) (hL : L.length ≤ 15) :
    Cert (Spn fun x => S x ∨ x = g) n G d L ∨ ∃ d' L', Cert (Spn fun x => S x ∨ x = g) n (2 * G + b + 6) d' L' ∧ L'.length = L.length + 1 := by
  have inS : ∀ {x}, Spn S x → Spn (fun x => S x ∨ x = g) x := fun h => h.mono fun _ h => .inl h
  have gS : Spn (fun x => S x ∨ x = g) g := .of (.inr rfl)
  have relOf : ∀ {d' : Int} {L' : List (Nat × Vf)}, (∀ x, Spn S x → ∀ c, d' * x c = fS L' x c) → (∀ c, d' * g c = fS L' g c) → ∀ x, Spn (fun x => S x ∨ x = g) x → ∀ c, d' * x c = fS L' x c := by
    intro d' L' h1 h2 x hx
    refine hx.all (P := fun x => ∀ c, d' * x c = fS L' x c) (fun c => by rw [fS_zero fun q _ => by simp]; simp) fun k u v hu hv c => ?_
    have e := fS_lin k 1 u v L' c
    have e2 : (fun j => k * u j + 1 * v j) = fun j => k * u j + v j := by funext j; omega
    rw [e2] at e
    rw [e, ← hv c]
    have hu' : d' * u c = fS L' u c := by
      rcases hu with hu | rfl
      · exact h1 u (.of hu) c
      · exact h2 c
    rw [← hu', Int.mul_add, Int.mul_left_comm]
    omega
  by_cases hw : ∃ c, d * g c - fS L g c ≠ 0
  · right
    obtain ⟨c1, hc1⟩ := hw
    obtain ⟨c0, h0, hmin⟩ := least (P := fun c => d * g c - fS L g c ≠ 0) c1 hc1
    have hmin : ∀ c < c0, d * g c - fS L g c = 0 := fun c hc => Classical.not_not.mp (hmin c hc)
    have c0n : c0 < n := Classical.byContradiction fun z => h0 (by
      rw [hn c0 (by omega), fS_zero fun q hq => by rw [C.top q hq c0 (by omega), Int.mul_zero]]
      simp)
    obtain ⟨s, hs, hpos⟩ : ∃ s : Int, (s = 1 ∨ s = -1) ∧ 0 < s * (d * g c0 - fS L g c0) := by
      rcases Int.lt_or_le 0 (d * g c0 - fS L g c0) with h | h
      · exact ⟨1, .inl rfl, by omega⟩
      · exact ⟨-1, .inr rfl, by omega⟩
    have hwP : ∀ q ∈ L, d * g q.1 - fS L g q.1 = 0 := fun q hq => by
      rw [fS_one hq C.nd fun q' hq' hne => by rw [C.off q' hq' q hq hne, Int.mul_zero], C.diag q hq, Int.mul_comm]
      omega
    have hwb : ∀ c, (d * g c - fS L g c).natAbs < 2 ^ (G + b + 5) := fun c => by
      have a1 := fS_abs (x := g) (c := c) (s := b) (t := G) (L := L) (fun q _ => hg _) fun q hq => C.sz q hq c
      have a2 := Nat.mul_le_mul (Nat.le_of_lt C.dsz) (Nat.le_of_lt (hg c))
      rw [← Int.natAbs_mul, ← Nat.pow_add] at a2
      have a3 : L.length * 2 ^ (b + G) ≤ 15 * 2 ^ (G + b) := by rw [Nat.add_comm b G]; exact Nat.mul_le_mul_right _ hL
      have a4 : (2 : Nat) ^ (G + b + 5) = 32 * 2 ^ (G + b) := by rw [Nat.pow_add, Nat.mul_comm]
      have a5 := Nat.two_pow_pos (G + b)
      have a6 := Int.natAbs_sub_le (d * g c) (fS L g c)
      omega
    have hsb : ∀ c, (s * (d * g c - fS L g c)).natAbs < 2 ^ (G + b + 5) := fun c => by
      have := hwb c
      rcases hs with rfl | rfl <;> omega
    generalize hwf : (fun c => s * (d * g c - fS L g c)) = w
    have hwc : ∀ c, s * (d * g c - fS L g c) = w c := fun c => congrFun hwf c
    have ss : s * s = 1 := by rcases hs with rfl | rfl <;> rfl
    have hrw : ∀ c, fS L g c = d * g c - s * w c := fun c => by
      rw [← hwc c, ← Int.mul_assoc, ss]
      omega
    have w0 : 0 < w c0 := by rw [← hwc]; exact hpos
    have wP : ∀ q ∈ L, w q.1 = 0 := fun q hq => by rw [← hwc, hwP q hq, Int.mul_zero]
    have wlt : ∀ c < c0, w c = 0 := fun c hc => by rw [← hwc, hmin c hc, Int.mul_zero]
    have wsz : ∀ c, (w c).natAbs < 2 ^ (G + b + 5) := fun c => by rw [← hwc]; exact hsb c
    have wtop : ∀ c, n ≤ c → w c = 0 := fun c hc => by
      rw [← hwc, hn c hc, fS_zero fun q hq => by rw [C.top q hq c hc, Int.mul_zero]]
      simp
    have wS : Spn (fun x => S x ∨ x = g) w := by
      have := ((gS.mul d).sub (fS_mem (x := g) fun q hq => inS (C.mem q hq))).mul s
      exact this.cast hwc
    have cN : c0 ∉ L.map (·.1) := fun h => by
      obtain ⟨q, hq, e⟩ := List.mem_map.mp h
      have := wP q hq
      rw [e] at this
      omega
    have big : ∀ {x y : Int} {s t : Nat}, x.natAbs < 2 ^ s → y.natAbs < 2 ^ t → (x * y).natAbs < 2 ^ (s + t) := fun {x y s t} h1 h2 => by
      rw [Int.natAbs_mul, Nat.pow_add]
      exact Nat.mul_lt_mul'' h1 h2
    have ne : ∀ q ∈ L, q.1 ≠ c0 := fun q hq e => cN (e ▸ List.mem_map.mpr ⟨q, hq, rfl⟩)
    refine ⟨w c0 * d, (c0, fun c => d * w c) :: L.map (fun q => (q.1, fun c => w c0 * q.2 c - q.2 c0 * w c)), ⟨Int.mul_pos w0 C.dpos, ?_, ?_, ?_, ?_, ?_, ?_, ?_, ?_, ?_, ?_⟩, by simp⟩
    · refine Nat.lt_of_lt_of_le (big (wsz c0) C.dsz) (Nat.pow_le_pow_right (by decide) (by omega))
    · intro q' hq'
      rcases List.mem_cons.mp hq' with rfl | hq'
      · exact wS.mul d
      · obtain ⟨q, hq, rfl⟩ := List.mem_map.mp hq'
        exact ((inS (C.mem q hq)).mul (w c0)).sub (wS.mul (q.2 c0))
    · intro q' hq'
      rcases List.mem_cons.mp hq' with rfl | hq'
      · exact c0n
      · obtain ⟨q, hq, rfl⟩ := List.mem_map.mp hq'
        exact C.lt q hq
    · intro q' hq' c hc
      rcases List.mem_cons.mp hq' with rfl | hq'
      · show d * w c = 0
        rw [wlt c hc, Int.mul_zero]
      · obtain ⟨q, hq, rfl⟩ := List.mem_map.mp hq'
        show w c0 * q.2 c - q.2 c0 * w c = 0
        replace hc : c < q.1 := hc
        rw [C.lead q hq c hc]
        by_cases h1 : c0 < q.1
        · rw [C.lead q hq c0 h1]
          simp
        · rw [wlt c (by omega)]
          simp
    · intro q' hq'
      rcases List.mem_cons.mp hq' with rfl | hq'
      · exact Int.mul_comm _ _
      · obtain ⟨q, hq, rfl⟩ := List.mem_map.mp hq'
        show w c0 * q.2 q.1 - q.2 c0 * w q.1 = _
        rw [C.diag q hq, wP q hq]
        simp
    · intro q1 hq1 q2 hq2 hne
      rcases List.mem_cons.mp hq1 with rfl | hq1
      · rcases List.mem_cons.mp hq2 with rfl | hq2
        · exact absurd rfl hne
        · obtain ⟨q, hq, rfl⟩ := List.mem_map.mp hq2
          show d * w q.1 = 0
          rw [wP q hq, Int.mul_zero]
      · obtain ⟨q, hq, rfl⟩ := List.mem_map.mp hq1
        rcases List.mem_cons.mp hq2 with rfl | hq2
        · show w c0 * q.2 c0 - q.2 c0 * w c0 = 0
          rw [Int.mul_comm]
          omega
        · obtain ⟨q', hq', rfl⟩ := List.mem_map.mp hq2
          show w c0 * q.2 q'.1 - q.2 c0 * w q'.1 = 0
          rw [C.off q hq q' hq' hne, wP q' hq']
          simp
    · rw [List.map_cons, List.map_map, List.nodup_cons]
      exact ⟨cN, C.nd⟩
    · refine relOf (fun x hx c => ?_) fun c => ?_
      · simp only [fS, fS_map, ← C.rel x hx]
        rw [Int.mul_assoc, Int.mul_assoc, Int.mul_left_comm d (x c0) (w c)]
        omega
      · simp only [fS, fS_map, hrw]
        rw [Int.mul_sub, Int.sub_mul, Int.mul_assoc, Int.mul_assoc, Int.mul_assoc, Int.mul_left_comm (g c0) d, Int.mul_left_comm (w c0) s]
        omega
    · intro q' hq' c
      rcases List.mem_cons.mp hq' with rfl | hq'
      · exact Nat.lt_of_lt_of_le (big C.dsz (wsz c)) (Nat.pow_le_pow_right (by decide) (by omega))
      · obtain ⟨q, hq, rfl⟩ := List.mem_map.mp hq'
        show (w c0 * q.2 c - q.2 c0 * w c).natAbs < _
        have b1 := big (wsz c0) (C.sz q hq c)
        have b2 := big (C.sz q hq c0) (wsz c)
        have b3 := Int.natAbs_sub_le (w c0 * q.2 c) (q.2 c0 * w c)
        rw [show G + b + 5 + G = 2 * G + b + 5 by omega] at b1
        rw [show G + (G + b + 5) = 2 * G + b + 5 by omega] at b2
        rw [Nat.pow_succ]
        omega
    · intro q' hq' c hc
      rcases List.mem_cons.mp hq' with rfl | hq'
      · show d * w c = 0
        rw [wtop c hc, Int.mul_zero]
      · obtain ⟨q, hq, rfl⟩ := List.mem_map.mp hq'
        show w c0 * q.2 c - q.2 c0 * w c = 0
        rw [wtop c hc, C.top q hq c hc]
        simp
  · left
    have hw : ∀ c, d * g c = fS L g c := fun c => by
      have := Classical.not_not.mp (fun z => hw ⟨c, z⟩)
      omega
    exact ⟨C.dpos, C.dsz, fun q hq => inS (C.mem q hq), C.lt, C.lead, C.diag, C.off, C.nd, relOf C.rel hw, C.sz, C.top⟩
end Lat

namespace Lat

theorem big {x y : Int} {s t : Nat} (h1 : x.natAbs ≤ 2 ^ s) (h2 : y.natAbs ≤ 2 ^ t) : (x * y).natAbs ≤ 2 ^ (s + t) := by
  rw [Int.natAbs_mul, Nat.pow_add]
  exact Nat.mul_le_mul h1 h2
theorem nodup_len : ∀ {n : Nat} {l : List Nat}, l.Nodup → (∀ x ∈ l, x < n) → l.length ≤ n
  | 0, [], _, _ => Nat.le_refl _
  | 0, x :: l, _, h => absurd (h x (by simp)) (by omega)
  | n + 1, l, hn, h => by
    by_cases hm : n ∈ l
    · have := nodup_len (n := n) (l := l.erase n) (hn.erase n) fun x hx => by
        have h1 := (List.Nodup.mem_erase_iff hn).mp hx
        have := h x h1.2
        omega
      rw [List.length_erase_of_mem hm] at this
      omega
    · have := nodup_len (n := n) (l := l) hn fun x hx => by
        have := h x hx
        have : x ≠ n := fun e => hm (e ▸ hx)
        omega
      omega
theorem Cert.len {V : Vf → Prop} {n G : Nat} {d : Int} {L : List (Nat × Vf)} (C : Cert V n G d L) : L.length ≤ n := by
  have := nodup_len C.nd fun x hx => by
    obtain ⟨q, hq, rfl⟩ := List.mem_map.mp hx
    exact C.lt q hq
  rwa [List.length_map] at this

theorem Cert.up' {V : Vf → Prop} {n G G' : Nat} {d : Int} {L : List (Nat × Vf)} (C : Cert V n G d L) (h : G ≤ G') : Cert V n G' d L :=
  ⟨C.dpos, Nat.lt_of_lt_of_le C.dsz (Nat.pow_le_pow_right (by decide) h), C.mem, C.lt, C.lead, C.diag, C.off, C.nd, C.rel, fun q hq c => Nat.lt_of_lt_of_le (C.sz q hq c) (Nat.pow_le_pow_right (by decide) h), C.top⟩
/-- the span of the rows is that of the generators; sizes -/
structure Out (n R : Nat) (S : Vf → Prop) (E : Nat → Option Vf) : Prop where
  ech : Ech n E
  to : ∀ x, S x → Spn (Er E) x
  fro : ∀ x, Er E x → Spn S x
  top : ∀ c r, E c = some r → ∀ j, n ≤ j → r j = 0
  eb : ∀ c r, E c = some r → ∀ j, (r j).natAbs < 2 ^ R
/-- the functional of a certificate -/
def fC (d : Int) (L : List (Nat × Vf)) (x : Vf) (j : Nat) : Int := d * x j - fS L x j
theorem fC_lin (d : Int) (L : List (Nat × Vf)) (a b : Int) (u v : Vf) (j : Nat) : fC d L (fun j => a * u j + b * v j) j = a * fC d L u j + b * fC d L v j := by
  unfold fC
  rw [fS_lin, Int.mul_add, Int.mul_sub, Int.mul_sub, Int.mul_left_comm d a, Int.mul_left_comm d b]
  omega
section
variable {S : Vf → Prop} {n G R b : Nat} {d : Int} {L : List (Nat × Vf)} {E0 E : Nat → Option Vf} {g v : Vf}
theorem Cert.fz (C : Cert (Spn S) n G d L) {x : Vf} (hx : Spn S x) (j : Nat) : fC d L x j = 0 := by
  unfold fC
  rw [C.rel x hx]
  omega
theorem Cert.fb (C : Cert (Spn S) n G d L) (hL : L.length ≤ 15) (hg : ∀ c, (g c).natAbs < 2 ^ b) (j : Nat) : (fC d L g j).natAbs ≤ 2 ^ (G + b + 4) := by
  unfold fC
  have a1 := fS_abs (x := g) (c := j) (s := b) (t := G) (L := L) (fun q _ => hg _) fun q hq => C.sz q hq j
  have a2 := big (Nat.le_of_lt C.dsz) (Nat.le_of_lt (hg j))
  have a3 : L.length * 2 ^ (b + G) ≤ 15 * 2 ^ (G + b) := by rw [Nat.add_comm b G]; exact Nat.mul_le_mul_right _ hL
  have a4 : (2 : Nat) ^ (G + b + 4) = 16 * 2 ^ (G + b) := by rw [Nat.pow_add, Nat.mul_comm]
  have a6 := Int.natAbs_sub_le (d * g j) (fS L g j)
  omega
/-- the pivots divide d -/
theorem Out.piv (O : Out n R S E0) (C : Cert (Spn S) n G d L) {p : Nat} {r : Vf} (h : E0 p = some r) : r p ∣ d ∧ 0 < r p ∧ (r p).natAbs < 2 ^ G := by
  have o := O.ech.ok p r h
  obtain ⟨e, he⟩ := C.lead_in (O.fro r ⟨p, h⟩) o.2.1 (by omega)
  have dv : r p ∣ d := by
    have := (ech_lead O.ech ((C.mem _ he).bind O.to) (C.lead _ he)).1 r h
    have e2 : e p = d := C.diag _ he
    have this : r p ∣ e p := this
    rwa [e2] at this
  have l := Int.le_of_dvd C.dpos dv
  have := C.dsz
  exact ⟨dv, o.2.2, by omega⟩
theorem Out.key (O : Out n R S E0) (C : Cert (Spn S) n G d L) {q : Nat × Vf} (hq : q ∈ L) : E0 q.1 ≠ none := fun h => by
  have := (ech_lead O.ech ((C.mem _ hq).bind O.to) (C.lead _ hq)).2 h
  rw [C.diag _ hq] at this
  have := C.dpos
  omega
/-- what is small at the pivots, and whose functional is small, is small -/
theorem Out.small (O : Out n R S E0) (C : Cert (Spn S) n G d L) (hL : L.length ≤ 15) {x : Vf} {t : Nat} (h1 : ∀ p, E0 p ≠ none → (x p).natAbs < 2 ^ G) (h2 : ∀ j, (fC d L x j).natAbs ≤ 2 ^ t) (h3 : 2 * G + 4 ≤ t) (j : Nat) : (x j).natAbs < 2 ^ (t + 2) := by
  have a1 := fS_abs (x := x) (c := j) (s := G) (t := G) (L := L) (fun q hq => h1 _ (O.key C hq)) fun q hq => C.sz q hq j
  have a2 : L.length * 2 ^ (G + G) ≤ 15 * 2 ^ (G + G) := Nat.mul_le_mul_right _ hL
  have a3 : (2 : Nat) ^ (2 * G + 4) = 16 * 2 ^ (G + G) := by rw [Nat.pow_add, Nat.mul_comm, Nat.two_mul]
  have a4 : (2 : Nat) ^ (2 * G + 4) ≤ 2 ^ t := Nat.pow_le_pow_right (by decide) h3
  have a5 := h2 j
  have a6 : (d * x j).natAbs ≤ (fC d L x j).natAbs + (fS L x j).natAbs := by
    have : d * x j = fC d L x j + fS L x j := by unfold fC; omega
    rw [this]
    exact Int.natAbs_add_le _ _
  have a7 : (x j).natAbs ≤ (d * x j).natAbs := by
    rw [Int.natAbs_mul]
    refine Nat.le_mul_of_pos_left _ ?_
    have := C.dpos
    omega
  have a8 : (2 : Nat) ^ (t + 2) = 4 * 2 ^ t := by rw [Nat.pow_add, Nat.mul_comm]
  have := Nat.two_pow_pos t
  omega

/-- at the head of a turn of add_vector -/
structure AddInv (n G R b : Nat) (S : Vf → Prop) (d : Int) (L : List (Nat × Vf)) (E0 : Nat → Option Vf) (g : Vf) (c : Nat) (E : Nat → Option Vf) (v : Vf) : Prop where
  ech : Ech n E
  vz : ∀ j < c, v j = 0
  vt : ∀ j, n ≤ j → v j = 0
  et : ∀ p r, E p = some r → ∀ j, n ≤ j → r j = 0
  same : ∀ p, c ≤ p → E p = E0 p
  dom : ∀ p, E p = none ↔ E0 p = none
  to : ∀ x, (S x ∨ x = g) → Spn (fun x => Er E x ∨ x = v) x
  fro : ∀ x, (Er E x ∨ x = v) → Spn (fun x => S x ∨ x = g) x
  fa : ∃ a : Int, 1 ≤ a ∧ a.natAbs ≤ 2 ^ (G * c) ∧ ∀ j, fC d L v j = a * fC d L g j
  vb : ∀ p, c ≤ p → E0 p ≠ none → (v p).natAbs < 2 ^ G
  eb : ∀ p r, E p = some r → ∀ j, (r j).natAbs < 2 ^ R
theorem AddInv.start (O : Out n R S E) (hb : b ≤ G) (hg : ∀ c, (g c).natAbs < 2 ^ b) (ht : ∀ j, n ≤ j → g j = 0) : AddInv n G R b S d L E g 0 E g where
  ech := O.ech
  vz := fun j h => absurd h (Nat.not_lt_zero _)
  vt := ht
  et := O.top
  same := fun _ _ => rfl
  dom := fun _ => Iff.rfl
  to := fun x h => by
    rcases h with h | rfl
    · exact (O.to x h).mono fun _ h => .inl h
    · exact .of (.inr rfl)
  fro := fun x h => by
    rcases h with h | rfl
    · exact (O.fro x h).mono fun _ h => .inl h
    · exact .of (.inr rfl)
  fa := ⟨1, by decide, by simp, fun j => by omega⟩
  vb := fun p _ _ => Nat.lt_of_lt_of_le (hg p) (Nat.pow_le_pow_right (by decide) hb)
  eb := O.eb
/-- the running vector is small -/
theorem AddInv.small {c : Nat} (I : AddInv n G R b S d L E0 g c E v) (O : Out n R S E0) (C : Cert (Spn S) n G d L) (hL : L.length ≤ 15) (hg : ∀ c, (g c).natAbs < 2 ^ b) (hc : c ≤ n) (hR : R = n * G + G + b + 6 + G) (j : Nat) : (v j).natAbs < 2 ^ R := by
  obtain ⟨a, a1, a2, a3⟩ := I.fa
  have hcn : G * c ≤ n * G := by rw [Nat.mul_comm]; exact Nat.mul_le_mul_right _ hc
  have := O.small C hL (x := v) (t := n * G + G + b + 4 + G) (fun p hp => ?_) (fun j => ?_) (by omega) j
  · rwa [show n * G + G + b + 4 + G + 2 = R by omega] at this
  · by_cases h : p < c
    · rw [I.vz p h]
      exact Nat.two_pow_pos G
    · exact I.vb p (by omega) hp
  · rw [a3]
    refine Nat.le_trans (big a2 (C.fb hL hg j)) (Nat.pow_le_pow_right (by decide) (by omega))
/-- a column without an entry -/
theorem AddInv.skip {c : Nat} (I : AddInv n G R b S d L E0 g c E v) (h : v c = 0) : AddInv n G R b S d L E0 g (c + 1) E v := by
  refine ⟨I.ech, fun j hj => ?_, I.vt, I.et, fun p hp => I.same p (by omega), I.dom, I.to, I.fro, ?_, fun p hp => I.vb p (by omega), I.eb⟩
  · by_cases e : j = c
    · rw [e]; exact h
    · exact I.vz j (by omega)
  · obtain ⟨a, a1, a2, a3⟩ := I.fa
    exact ⟨a, a1, Nat.le_trans a2 (Nat.pow_le_pow_right (by decide) (Nat.mul_le_mul_left _ (by omega))), a3⟩
def updE (E : Nat → Option Vf) (c : Nat) (r : Vf) : Nat → Option Vf := fun p => if p = c then some r else E p
theorem updE_same {c : Nat} {r : Vf} : updE E c r c = some r := if_pos rfl
theorem updE_ne {c p : Nat} {r : Vf} (h : p ≠ c) : updE E c r p = E p := if_neg h
/-- all columns done -/
theorem AddInv.fin {c : Nat} (I : AddInv n G R b S d L E0 g c E v) (hc : c = n) : Out n R (fun x => S x ∨ x = g) E := by
  have v0 : ∀ j, v j = 0 := fun j => by
    by_cases h : j < c
    · exact I.vz j h
    · exact I.vt j (by omega)
  refine ⟨I.ech, fun x hx => (I.to x hx).bind fun y hy => ?_, fun x hx => I.fro x (.inl hx), I.et, I.eb⟩
  rcases hy with hy | rfl
  · exact .of hy
  · exact Spn.zero.cast fun j => (v0 j).symm
/-- a new pivot -/
theorem AddInv.new {c : Nat} {s : Int} (I : AddInv n G R b S d L E0 g c E v) (hs : s = 1 ∨ s = -1) (hE : E c = none) (hv : 0 < s * v c) (hvb : ∀ j, (v j).natAbs < 2 ^ R) : Out n R (fun x => S x ∨ x = g) (updE E c fun j => s * v j) := by
  have hcn : c < n := Classical.byContradiction fun z => by
    rw [I.vt c (by omega), Int.mul_zero] at hv
    omega
  have old : ∀ x, Er E x → Er (updE E c fun j => s * v j) x := fun x ⟨p, hp⟩ => ⟨p, by
    rw [updE_ne fun e => by rw [e, hE] at hp; cases hp]
    exact hp⟩
  refine ⟨⟨fun p r hp => ?_⟩, fun x hx => (I.to x hx).bind fun y hy => ?_, fun x ⟨p, hp⟩ => ?_, fun p r hp j hj => ?_, fun p r hp j => ?_⟩
  · by_cases e : p = c
    · subst e
      rw [updE_same] at hp
      cases hp
      exact ⟨hcn, fun j hj => by dsimp only; rw [I.vz j hj, Int.mul_zero], hv⟩
    · rw [updE_ne e] at hp
      exact I.ech.ok p r hp
  · rcases hy with hy | rfl
    · exact .of (old y hy)
    · have := (Spn.of (S := Er (updE E c fun j => s * y j)) ⟨c, updE_same⟩).mul s
      refine this.cast fun j => ?_
      rcases hs with rfl | rfl <;> omega
  · by_cases e : p = c
    · subst e
      rw [updE_same] at hp
      cases hp
      exact (I.fro v (.inr rfl)).mul s
    · rw [updE_ne e] at hp
      exact I.fro x (.inl ⟨p, hp⟩)
  · by_cases e : p = c
    · subst e
      rw [updE_same] at hp
      cases hp
      show s * v j = 0
      rw [I.vt j hj, Int.mul_zero]
    · rw [updE_ne e] at hp
      exact I.et p r hp j hj
  · by_cases e : p = c
    · subst e
      rw [updE_same] at hp
      cases hp
      have := hvb j
      show (s * v j).natAbs < _
      rcases hs with rfl | rfl <;> omega
    · rw [updE_ne e] at hp
      exact I.eb p r hp j
/-- what lowered makes of a vector -/
structure Low (E : Nat → Option Vf) (c : Nat) (v u : Vf) : Prop where
  sp : Spn (fun x => ∃ p, c < p ∧ E p = some x) fun j => v j - u j
  eq : ∀ j ≤ c, u j = v j
  red : ∀ p r, c < p → E p = some r → 0 ≤ u p ∧ u p < r p
theorem AddInv.turn {c : Nat} {r u t : Vf} {gg al be : Int} (I : AddInv n G R b S d L E0 g c E v) (O : Out n R S E0) (C : Cert (Spn S) n G d L) (hL : L.length ≤ 15) (hg : ∀ c, (g c).natAbs < 2 ^ b) (hcn : c < n) (hR : R = n * G + G + b + 6 + G)
    (hr : E c = some r) (hgg : 0 < gg) (hlin : gg = al * r c + be * v c) (d1 : gg ∣ r c) (d2 : gg ∣ v c) (hbe : be.natAbs ≤ max 1 (r c).natAbs)
    (hu : Low E c (fun j => al * r j + be * v j) u) (ht : Low E c (fun j => (r c / gg) * v j + -(v c / gg) * r j) t) (htu : ∀ j, n ≤ j → u j = 0) (htt : ∀ j, n ≤ j → t j = 0) :
    AddInv n G R b S d L E0 g (c + 1) (updE E c u) t := by
  have o := I.ech.ok c r hr
  have r0 : E0 c = some r := by rw [← I.same c (Nat.le_refl _)]; exact hr
  have rV : Spn S r := O.fro r ⟨c, r0⟩
  have pv := O.piv C r0
  obtain ⟨m, hm⟩ := d1
  obtain ⟨k, hk⟩ := d2
  have em : r c / gg = m := by rw [hm]; exact Int.mul_ediv_cancel_left _ (by omega)
  have ek : v c / gg = k := by rw [hk]; exact Int.mul_ediv_cancel_left _ (by omega)
  rw [em, ek] at ht
  have det : al * m + be * k = 1 := by
    have : gg * (al * m + be * k) = gg * 1 := by
      rw [Int.mul_add, Int.mul_left_comm gg al, Int.mul_left_comm gg be, ← hm, ← hk, Int.mul_one]
      exact hlin.symm
    exact Int.eq_of_mul_eq_mul_left (by omega) this
  have mpos : 1 ≤ m := by
    have h := o.2.2
    rw [hm] at h
    exact Int.pos_of_mul_pos_right h (by omega) |> fun z => by omega
  have mle : m.natAbs ≤ 2 ^ G := by
    have h1 : m ≤ r c := by
      rw [hm]
      have : 1 * m ≤ gg * m := Int.mul_le_mul_of_nonneg_right (by omega) (by omega)
      omega
    omega
  have zE : ∀ {x : Vf}, Spn (fun x => ∃ p, c < p ∧ E p = some x) x → Spn (Er E) x := fun h => h.mono fun y ⟨p, _, hp⟩ => ⟨p, hp⟩
  have zE' : ∀ {x : Vf}, Spn (fun x => ∃ p, c < p ∧ E p = some x) x → Spn (Er (updE E c u)) x := fun h => h.mono fun y ⟨p, hc, hp⟩ => ⟨p, by rw [updE_ne (by omega)]; exact hp⟩
  have zV : ∀ {x : Vf}, Spn (fun x => ∃ p, c < p ∧ E p = some x) x → Spn S x := fun h => h.bind fun y ⟨p, hc, hp⟩ => O.fro y ⟨p, by rw [← I.same p (by omega)]; exact hp⟩
  have uc : u c = gg := by rw [hu.eq c (Nat.le_refl _)]; exact hlin.symm
  have tc : t c = 0 := by
    rw [ht.eq c (Nat.le_refl _)]
    show m * v c + -k * r c = 0
    rw [hm, hk, Int.neg_mul, Int.mul_left_comm m gg k, Int.mul_left_comm k gg m, Int.mul_comm k m]
    omega
  have uz : ∀ j < c, u j = 0 := fun j hj => by
    rw [hu.eq j (by omega)]
    show al * r j + be * v j = 0
    rw [o.2.1 j hj, I.vz j hj]
    simp
  have tz : ∀ j < c, t j = 0 := fun j hj => by
    rw [ht.eq j (by omega)]
    show m * v j + -k * r j = 0
    rw [o.2.1 j hj, I.vz j hj]
    simp
  have fu : ∀ j, fC d L u j = be * fC d L v j := fun j => by
    have e1 : u = fun j => 1 * (al * r j + be * v j) + (-1) * (al * r j + be * v j - u j) := by funext j; omega
    rw [e1, fC_lin, fC_lin, C.fz rV, C.fz (zV hu.sp)]
    simp
  have ft : ∀ j, fC d L t j = m * fC d L v j := fun j => by
    have e1 : t = fun j => 1 * (m * v j + -k * r j) + (-1) * (m * v j + -k * r j - t j) := by funext j; omega
    rw [e1, fC_lin, fC_lin, C.fz rV, C.fz (zV ht.sp)]
    simp
  obtain ⟨a, a1, a2, a3⟩ := I.fa
  have pos2 : ∀ {p : Nat} {x : Vf}, c < p → E0 p ≠ none → Low E c x u → (u p).natAbs < 2 ^ G := fun {p x} hp hE hl => by
    cases e : E0 p with
    | none => exact absurd e hE
    | some w =>
      have := hl.red p w hp (by rw [I.same p (by omega)]; exact e)
      have pw := O.piv C e
      omega
  have pos3 : ∀ {p : Nat} {x : Vf}, c < p → E0 p ≠ none → Low E c x t → (t p).natAbs < 2 ^ G := fun {p x} hp hE hl => by
    cases e : E0 p with
    | none => exact absurd e hE
    | some w =>
      have := hl.red p w hp (by rw [I.same p (by omega)]; exact e)
      have pw := O.piv C e
      omega
  have hb1 : be.natAbs ≤ 2 ^ G := by
    have := Nat.two_pow_pos G
    omega
  have ub : ∀ j, (u j).natAbs < 2 ^ R := by
    intro j
    have := O.small C hL (x := u) (t := n * G + G + b + 4 + G) (fun p hp => ?_) (fun j => ?_) (by omega) j
    · rwa [show n * G + G + b + 4 + G + 2 = R by omega] at this
    · by_cases h : p < c
      · rw [uz p h]
        exact Nat.two_pow_pos G
      · by_cases h2 : p = c
        · subst h2
          rw [uc]
          have : gg ≤ r p := Int.le_of_dvd o.2.2 ⟨m, hm⟩
          have := pv.2.2
          omega
        · exact pos2 (by omega) hp hu
    · rw [fu, a3]
      have hcn : G * (c + 1) ≤ n * G := by rw [Nat.mul_comm]; exact Nat.mul_le_mul_right _ hcn
      rw [Nat.mul_add, Nat.mul_one] at hcn
      refine Nat.le_trans (big hb1 (big a2 (C.fb hL hg j))) (Nat.pow_le_pow_right (by decide) (by omega))
  have rowsE : ∀ p w, updE E c u p = some w → (p = c ∧ w = u) ∨ (p ≠ c ∧ E p = some w) := fun p w h => by
    by_cases e : p = c
    · subst e
      rw [updE_same] at h
      exact .inl ⟨rfl, (Option.some.inj h).symm⟩
    · rw [updE_ne e] at h
      exact .inr ⟨e, h⟩
  refine ⟨⟨fun p w h => ?_⟩, fun j hj => ?_, htt, fun p w h j hj => ?_, fun p hp => ?_, fun p => ?_, fun x hx => (I.to x hx).bind fun y hy => ?_, fun x hx => ?_, ⟨m * a, ?_, ?_, fun j => ?_⟩, fun p hp hE => pos3 (by omega) hE ht, fun p w h j => ?_⟩
  · rcases rowsE p w h with ⟨rfl, rfl⟩ | ⟨_, h⟩
    · exact ⟨hcn, uz, by omega⟩
    · exact I.ech.ok p w h
  · by_cases e : j = c
    · rw [e]; exact tc
    · exact tz j (by omega)
  · rcases rowsE p w h with ⟨rfl, rfl⟩ | ⟨_, h⟩
    · exact htu j hj
    · exact I.et p w h j hj
  · rw [updE_ne (by omega)]
    exact I.same p (by omega)
  · by_cases e : p = c
    · subst e
      rw [updE_same, r0]
      simp
    · rw [updE_ne e]
      exact I.dom p
  · have uS : Spn (fun x => Er (updE E c u) x ∨ x = t) fun j => al * r j + be * v j := by
      have h1 : Spn (fun x => Er (updE E c u) x ∨ x = t) u := .of (.inl ⟨c, updE_same⟩)
      have h2 : Spn (fun x => Er (updE E c u) x ∨ x = t) fun j => (al * r j + be * v j) - u j := (zE' hu.sp).mono fun _ h => .inl h
      exact (h1.plus h2).cast fun j => by omega
    have tS : Spn (fun x => Er (updE E c u) x ∨ x = t) fun j => m * v j + -k * r j := by
      have h1 : Spn (fun x => Er (updE E c u) x ∨ x = t) t := .of (.inr rfl)
      have h2 : Spn (fun x => Er (updE E c u) x ∨ x = t) fun j => (m * v j + -k * r j) - t j := (zE' ht.sp).mono fun _ h => .inl h
      exact (h1.plus h2).cast fun j => by omega
    rcases hy with ⟨p, hp⟩ | rfl
    · by_cases e : p = c
      · subst e
        rw [hr] at hp
        cases hp
        refine (uS.comb m (-be) tS).cast fun j => ?_
        have : (al * m + be * k) * r j = r j := by rw [det, Int.one_mul]
        rw [Int.add_mul] at this
        rw [Int.mul_add, Int.mul_add, ← Int.mul_assoc, ← Int.mul_assoc, ← Int.mul_assoc, ← Int.mul_assoc, Int.mul_comm m al, Int.mul_comm m be, Int.neg_mul_neg, Int.neg_mul, Int.neg_mul]
        omega
      · exact .of (.inl ⟨p, by rw [updE_ne e]; exact hp⟩)
    · refine (uS.comb k al tS).cast fun j => ?_
      have : (al * m + be * k) * y j = y j := by rw [det, Int.one_mul]
      rw [Int.add_mul] at this
      rw [Int.mul_add, Int.mul_add, ← Int.mul_assoc, ← Int.mul_assoc, ← Int.mul_assoc, ← Int.mul_assoc, Int.mul_comm k al, Int.mul_comm k be, Int.mul_neg, Int.neg_mul]
      omega
  · have rS : Spn (fun x => S x ∨ x = g) r := I.fro r (.inl ⟨c, hr⟩)
    have vS : Spn (fun x => S x ∨ x = g) v := I.fro v (.inr rfl)
    have zS : ∀ {x : Vf}, Spn (fun x => ∃ p, c < p ∧ E p = some x) x → Spn (fun x => S x ∨ x = g) x := fun h => (zV h).mono fun _ h => .inl h
    rcases hx with ⟨p, hp⟩ | rfl
    · rcases rowsE p x hp with ⟨rfl, rfl⟩ | ⟨_, hp⟩
      · exact ((rS.comb al be vS).sub (zS hu.sp)).cast fun j => by omega
      · exact I.fro x (.inl ⟨p, hp⟩)
    · exact ((vS.comb m (-k) rS).sub (zS ht.sp)).cast fun j => by omega
  · have : 1 * 1 ≤ m * a := Int.mul_le_mul mpos a1 (by decide) (by omega)
    omega
  · refine Nat.le_trans (big mle a2) (Nat.pow_le_pow_right (by decide) (by rw [Nat.mul_add]; omega))
  · rw [ft, a3, Int.mul_assoc]
  · rcases rowsE p w h with ⟨rfl, rfl⟩ | ⟨_, h⟩
    · exact ub j
    · exact I.eb p w h j
end
end Lat

namespace Lat
open Mir

theorem dvd_small {m x : Int} (h : m ∣ x) (h1 : -m < x) (h2 : x < m) : x = 0 := by
  obtain ⟨k, rfl⟩ := h
  rcases Int.lt_or_le k 1 with a | a
  · rcases Int.lt_or_le (-1) k with b | b
    · have : k = 0 := by omega
      rw [this, Int.mul_zero]
    · have : m * k ≤ m * (-1) := Int.mul_le_mul_of_nonneg_left b (by omega)
      omega
  · have : m * 1 ≤ m * k := Int.mul_le_mul_of_nonneg_left a (by omega)
    omega
/-! ### lists as vectors -/
def vf (xs : List Int) : Vf := fun c => xs.getD c 0
theorem vf_top {xs : List Int} {n : Nat} (h : xs.length = n) : ∀ j, n ≤ j → vf xs j = 0 := fun j hj => getD_ge (by omega)
theorem vf_inj {xs ys : List Int} (hl : xs.length = ys.length) (h : ∀ j, vf xs j = vf ys j) : xs = ys := by
  refine List.ext_getElem hl fun i h1 h2 => ?_
  have := h i
  unfold vf at this
  rw [List.getD_eq_getElem?_getD, List.getD_eq_getElem?_getD, List.getElem?_eq_getElem h1, List.getElem?_eq_getElem h2] at this
  exact this
def Rows (rs : List (List Int)) (x : Vf) : Prop := ∃ r, r ∈ rs ∧ x = vf r
theorem pv_val {r : List Int} {n : Nat} (h : pv r < n) (hl : r.length = n) (h0 : 0 ≤ r.getD (pv r) 0) : 0 < vf r (pv r) := by
  have h1 := pv_ne (xs := r) (by omega)
  show 0 < r.getD (pv r) 0
  omega
section
variable {n : Nat} {rs rs' : List (List Int)}
theorem IsB.at' (B : IsB n rs) {r : List Int} (hr : r ∈ rs) : ∃ i, i < rs.length ∧ rs.getD i [] = r := mem_getD hr
theorem IsB.pp (B : IsB n rs) {r : List Int} (hr : r ∈ rs) : 0 < vf r (pv r) := by
  obtain ⟨i, hi, rfl⟩ := IsB.at' B hr
  exact pv_val (B.piv _ hr) (B.len _ hr) (B.pos i hi)
theorem IsB.pz {r : List Int} : ∀ j < pv r, vf r j = 0 := fun j hj => pv_zero hj
theorem IsB.lt (B : IsB n rs) {i j : Nat} (hij : i < j) (hj : j < rs.length) : pv (rs.getD i []) < pv (rs.getD j []) := by
  have := List.pairwise_iff_getElem.mp B.asc i j (by rw [List.length_map]; omega) (by rw [List.length_map]; exact hj) hij
  rw [List.getElem_map, List.getElem_map] at this
  rw [List.getD_eq_getElem?_getD, List.getD_eq_getElem?_getD, List.getElem?_eq_getElem hj, List.getElem?_eq_getElem (by omega)]
  exact this
theorem IsB.pin (B : IsB n rs) {r s : List Int} (hr : r ∈ rs) (hs : s ∈ rs) (h : pv r = pv s) : r = s := by
  obtain ⟨i, hi, rfl⟩ := IsB.at' B hr
  obtain ⟨j, hj, rfl⟩ := IsB.at' B hs
  by_cases e : i = j
  · rw [e]
  · rcases Nat.lt_or_gt_of_ne e with l | l
    · have := IsB.lt B l hj; omega
    · have := IsB.lt B l hi; omega
theorem IsB.rd (B : IsB n rs) {r s : List Int} (hr : r ∈ rs) (hs : s ∈ rs) (h : pv r < pv s) : 0 ≤ vf r (pv s) ∧ vf r (pv s) < vf s (pv s) := by
  obtain ⟨i, hi, rfl⟩ := IsB.at' B hr
  obtain ⟨j, hj, rfl⟩ := IsB.at' B hs
  have l : i < j := Classical.byContradiction fun z => by
    by_cases e : i = j
    · rw [e] at h; omega
    · have := IsB.lt B (show j < i by omega) hi; omega
  exact B.red j hj i l
def ofB (rs : List (List Int)) (c : Nat) : Option Vf := (rs.find? fun r => pv r == c).map vf
theorem ofB_some {c : Nat} {x : Vf} (h : ofB rs c = some x) : ∃ r, r ∈ rs ∧ pv r = c ∧ x = vf r := by
  unfold ofB at h
  cases e : rs.find? fun r => pv r == c with
  | none => rw [e] at h; cases h
  | some r =>
    rw [e] at h
    have := List.find?_some e
    exact ⟨r, List.mem_of_find?_eq_some e, by simpa using this, (Option.some.inj h).symm⟩
theorem IsB.of (B : IsB n rs) {r : List Int} (hr : r ∈ rs) : ofB rs (pv r) = some (vf r) := by
  unfold ofB
  cases e : rs.find? fun s => pv s == pv r with
  | none =>
    have := List.find?_eq_none.mp e r hr
    simp at this
  | some s =>
    have h1 := List.find?_some e
    have h2 := List.mem_of_find?_eq_some e
    rw [IsB.pin B h2 hr (by simpa using h1)]
    rfl
theorem IsB.ech (B : IsB n rs) : Ech n (ofB rs) := ⟨fun c x h => by
  obtain ⟨r, hr, rfl, rfl⟩ := ofB_some h
  exact ⟨B.piv r hr, IsB.pz, IsB.pp B hr⟩⟩
theorem IsB.er (B : IsB n rs) {x : Vf} : Er (ofB rs) x ↔ Rows rs x := by
  constructor
  · rintro ⟨c, h⟩
    obtain ⟨r, hr, _, e⟩ := ofB_some h
    exact ⟨r, hr, e⟩
  · rintro ⟨r, hr, rfl⟩
    exact ⟨_, IsB.of B hr⟩
theorem IsB.sub (B : IsB n rs) (B' : IsB n rs') (s1 : ∀ x, Rows rs x → Spn (Rows rs') x) (s2 : ∀ x, Rows rs' x → Spn (Rows rs) x) {r : List Int} (hr : r ∈ rs) : r ∈ rs' := by
  have t1 : ∀ x, Spn (Rows rs) x → Spn (Er (ofB rs')) x := fun x h => (h.bind s1).mono fun y h => (IsB.er B').mpr h
  have t2 : ∀ x, Spn (Rows rs') x → Spn (Er (ofB rs)) x := fun x h => (h.bind s2).mono fun y h => (IsB.er B).mpr h
  have same : ∀ {w : List Int}, w ∈ rs → ∃ w', w' ∈ rs' ∧ pv w' = pv w ∧ vf w' (pv w) = vf w (pv w) := fun {w} hw => by
    have l := ech_lead (IsB.ech B') (t1 _ (.of ⟨w, hw, rfl⟩)) (c := pv w) IsB.pz
    have pw := IsB.pp B hw
    cases e : ofB rs' (pv w) with
    | none => have := l.2 e; omega
    | some x =>
      obtain ⟨w', hw', ep, rfl⟩ := ofB_some e
      have d1 := l.1 _ e
      have d2 := (ech_lead (IsB.ech B) (t2 _ (.of ⟨w', hw', rfl⟩)) (c := pv w) (by rw [← ep]; exact IsB.pz)).1 _ (IsB.of B hw)
      have pw' := IsB.pp B' hw'
      rw [ep] at pw'
      exact ⟨w', hw', ep, Int.le_antisymm (Int.le_of_dvd pw d1) (Int.le_of_dvd pw' d2)⟩
  obtain ⟨r', hr', ep, ev⟩ := same hr
  have key : ∀ j, vf r j - vf r' j = 0 := by
    refine ech_zero (IsB.ech B) (x := fun j => vf r j - vf r' j) ?_ ?_
    · exact ((Spn.of (S := Er (ofB rs)) ((IsB.er B).mpr ⟨r, hr, rfl⟩)).sub (t2 _ (.of ⟨r', hr', rfl⟩)))
    · intro c x hx hz
      obtain ⟨w, hw, rfl, rfl⟩ := ofB_some hx
      show vf r (pv w) - vf r' (pv w) = 0
      by_cases h1 : pv w < pv r
      · rw [IsB.pz _ h1, IsB.pz _ (by rw [ep]; exact h1)]
        rfl
      · by_cases h2 : pv w = pv r
        · rw [h2, ev]; omega
        · have a1 := IsB.rd B hr hw (by omega)
          obtain ⟨w', hw', ep', ev'⟩ := same hw
          have a2 := IsB.rd B' hr' hw' (by omega)
          rw [ep', ev'] at a2
          have dv := (ech_lead (IsB.ech B) (x := fun j => vf r j - vf r' j) ((Spn.of (S := Er (ofB rs)) ((IsB.er B).mpr ⟨r, hr, rfl⟩)).sub (t2 _ (.of ⟨r', hr', rfl⟩))) hz).1 _ hx
          exact dvd_small dv (by omega) (by omega)
  have : r = r' := vf_inj (by rw [B.len r hr, B'.len r' hr']) fun j => by have := key j; omega
  rw [this]
  exact hr'
theorem eq_of_asc {α : Type} (f : α → Nat) : ∀ {l l' : List α}, (l.map f).Pairwise (· < ·) → (l'.map f).Pairwise (· < ·) → (∀ x, x ∈ l ↔ x ∈ l') → l = l'
  | [], [], _, _, _ => rfl
  | [], b :: t, _, _, h => by have := (h b).mpr (by simp); simp at this
  | a :: t, [], _, _, h => by have := (h a).mp (by simp); simp at this
  | a :: t, b :: t', p, p', h => by
    rw [List.map_cons, List.pairwise_cons] at p p'
    have e : a = b := by
      rcases List.mem_cons.mp ((h a).mp (by simp)) with e | m
      · exact e
      · rcases List.mem_cons.mp ((h b).mpr (by simp)) with e | m'
        · exact e.symm
        · have h1 := p'.1 _ (List.mem_map.mpr ⟨a, m, rfl⟩)
          have h2 := p.1 _ (List.mem_map.mpr ⟨b, m', rfl⟩)
          omega
    subst e
    rw [eq_of_asc f p.2 p'.2 fun x => ?_]
    constructor
    · intro hx
      rcases List.mem_cons.mp ((h x).mp (by simp [hx])) with e | m
      · subst e
        have := p.1 _ (List.mem_map.mpr ⟨x, hx, rfl⟩)
        omega
      · exact m
    · intro hx
      rcases List.mem_cons.mp ((h x).mpr (by simp [hx])) with e | m
      · subst e
        have := p'.1 _ (List.mem_map.mpr ⟨x, hx, rfl⟩)
        omega
      · exact m
/-- a lattice has one true basis -/
theorem IsB.unique (B : IsB n rs) (B' : IsB n rs') (s1 : ∀ x, Rows rs x → Spn (Rows rs') x) (s2 : ∀ x, Rows rs' x → Spn (Rows rs) x) : rs = rs' :=
  eq_of_asc pv B.asc B'.asc fun x => ⟨fun h => IsB.sub B B' s1 s2 h, fun h => IsB.sub B' B s2 s1 h⟩
end
/-! ### the rows lowered last -/
theorem final_isB {n : Nat} {E : Nat → Option Vf} (h : Ech n E) {ks : List Nat} (hk : ks.Pairwise (· < ·)) (hm : ∀ c, c ∈ ks ↔ E c ≠ none) {rs : List (List Int)} (hl : rs.length = ks.length) (hn : ∀ r ∈ rs, r.length = n)
    (low : ∀ i < ks.length, ∃ r, E (ks.getD i 0) = some r ∧ Low E (ks.getD i 0) r (vf (rs.getD i []))) :
    IsB n rs ∧ (∀ x, Er E x → Spn (Rows rs) x) ∧ ∀ x, Rows rs x → Spn (Er E) x := by
  have hrow : ∀ i < ks.length, (rs.getD i []).length = n := fun i hi => hn _ (getD_mem (by omega))
  have fact : ∀ i < ks.length, (∀ j < ks.getD i 0, vf (rs.getD i []) j = 0) ∧ 0 < vf (rs.getD i []) (ks.getD i 0) ∧ ks.getD i 0 < n := fun i hi => by
    obtain ⟨r, e, l⟩ := low i hi
    have o := h.ok _ r e
    exact ⟨fun j hj => by rw [l.eq j (by omega)]; exact o.2.1 j hj, by rw [l.eq _ (Nat.le_refl _)]; exact o.2.2, o.1⟩
  have hp : ∀ i < ks.length, pv (rs.getD i []) = ks.getD i 0 := fun i hi => by
    obtain ⟨f1, f2, f3⟩ := fact i hi
    refine pv_eq (by rw [hrow i hi]; exact f3) (fun z => ?_) f1
    have : vf (rs.getD i []) (ks.getD i 0) = 0 := z
    omega
  have hmap : rs.map pv = ks := by
    refine List.ext_getElem (by rw [List.length_map]; exact hl) fun i h1 h2 => ?_
    rw [List.length_map] at h1
    rw [List.getElem_map]
    have := hp i h2
    rw [List.getD_eq_getElem?_getD, List.getElem?_eq_getElem h1, List.getD_eq_getElem?_getD, List.getElem?_eq_getElem h2] at this
    exact this
  have B : IsB n rs := by
    refine ⟨hn, fun r hr => ?_, by rw [hmap]; exact hk, fun i hi => ?_, fun i hi j hj => ?_⟩
    · obtain ⟨i, hi, rfl⟩ := mem_getD (d := []) hr
      rw [hp i (by omega)]
      exact (fact i (by omega)).2.2
    · rw [hp i (by omega)]
      have := (fact i (by omega)).2.1
      exact Int.le_of_lt this
    · rw [hp i (by omega)]
      obtain ⟨r, e, l⟩ := low i (by omega)
      obtain ⟨r', e', l'⟩ := low j (by omega)
      have := l'.red (ks.getD i 0) r (cols_lt hk hj (by omega)) e
      have e2 := l.eq (ks.getD i 0) (Nat.le_refl _)
      show 0 ≤ vf (rs.getD j []) (ks.getD i 0) ∧ vf (rs.getD j []) (ks.getD i 0) < vf (rs.getD i []) (ks.getD i 0)
      rw [e2]
      exact this
  have fro : ∀ x, Rows rs x → Spn (Er E) x := by
    rintro x ⟨r, hr, rfl⟩
    obtain ⟨i, hi, rfl⟩ := mem_getD (d := []) hr
    obtain ⟨r, e, l⟩ := low i (by omega)
    have h1 : Spn (Er E) r := .of ⟨_, e⟩
    have h2 : Spn (Er E) fun j => r j - vf (rs.getD i []) j := l.sp.mono fun y ⟨p, _, hp⟩ => ⟨p, hp⟩
    exact (h1.sub h2).cast fun j => by omega
  refine ⟨B, ?_, fro⟩
  have all : ∀ m c, n - c ≤ m → ∀ r, E c = some r → Spn (Rows rs) r := by
    intro m
    induction m with
    | zero =>
      intro c hc r e
      have := (h.ok c r e).1
      omega
    | succ m ih =>
      intro c hc r e
      obtain ⟨i, hi, hic⟩ := mem_getD (d := 0) ((hm c).mpr (by rw [e]; simp))
      obtain ⟨r', e', l⟩ := low i hi
      rw [hic, e] at e'
      cases e'
      rw [hic] at l
      have h1 : Spn (Rows rs) (vf (rs.getD i [])) := .of ⟨_, getD_mem (by omega), rfl⟩
      have h2 : Spn (Rows rs) fun j => r j - vf (rs.getD i []) j := l.sp.bind fun y ⟨p, hp1, hp2⟩ => by
        have := (h.ok p y hp2).1
        exact ih p (by omega) y hp2
      exact (h1.plus h2).cast fun j => by omega
  rintro x ⟨c, e⟩
  exact all _ c (Nat.le_refl _) x e
end Lat

namespace Lat
open Mir

/-! ### bezout -/
theorem opp_le {x y : Int} (h : x * y ≤ 0) : x.natAbs ≤ (x - y).natAbs := by
  rcases Int.lt_or_le 0 x with a | a
  · rcases Int.lt_or_le 0 y with b | b
    · have := Int.mul_pos a b
      omega
    · omega
  · rcases Int.lt_or_le x 0 with a' | a'
    · rcases Int.lt_or_le y 0 with b | b
      · have := Int.mul_pos_of_neg_of_neg a' b
        omega
      · omega
    · have : x = 0 := by omega
      omega
theorem fmod_sgn {x p : Int} (hp : p ≠ 0) : (x.fmod p).natAbs < p.natAbs ∧ 0 ≤ p * x.fmod p := by
  rcases Int.lt_or_le 0 p with h | h
  · have := fmod_rng (i := x) h
    exact ⟨by omega, Int.mul_nonneg (by omega) this.1⟩
  · have h' : 0 < -p := by omega
    have e : x.fmod p = -((-x).fmod (-p)) := by rw [Int.fmod_def, Int.fmod_def, Int.neg_fdiv_neg, Int.neg_mul]; omega
    have := fmod_rng (i := -x) h'
    rw [e]
    refine ⟨by omega, ?_⟩
    rw [Int.mul_neg, ← Int.neg_mul]
    exact Int.mul_nonneg (by omega) this.1
theorem fdiv_nn {x p : Int} (h : 0 ≤ x * p) : 0 ≤ x.fdiv p := by
  rcases Int.lt_or_le 0 p with hp | hp
  · have : 0 ≤ x := Classical.byContradiction fun z => by
      have := Int.mul_neg_of_neg_of_pos (show x < 0 by omega) hp
      omega
    exact Int.fdiv_nonneg this (by omega)
  · rcases Int.lt_or_le p 0 with hp' | hp'
    · have : x ≤ 0 := Classical.byContradiction fun z => by
        have := Int.mul_neg_of_pos_of_neg (show 0 < x by omega) hp'
        omega
      rw [← Int.neg_fdiv_neg]
      exact Int.fdiv_nonneg (by omega) (by omega)
    · have : p = 0 := by omega
      rw [this]
      simp
theorem fdiv_abs' {x p : Int} (hp : p ≠ 0) : (x.fdiv p).natAbs ≤ x.natAbs := by
  rcases Int.lt_or_le 0 p with h | h
  · exact fdiv_abs h
  · rw [← Int.neg_fdiv_neg]
    have := fdiv_abs (x := -x) (p := -p) (by omega)
    omega
def mx (x : Int) : Nat := max 1 x.natAbs
structure BezI (one other l0 l1 l2 r0 r1 r2 : Int) : Prop where
  idl : l0 = l1 * one + l2 * other
  idr : r0 = r1 * one + r2 * other
  det : ∃ s : Int, (s = 1 ∨ s = -1) ∧ l0 * r2 - r0 * l2 = s * one ∧ l0 * r1 - r0 * l1 = -s * other
  bl0 : l0.natAbs ≤ max one.natAbs other.natAbs
  br0 : r0.natAbs ≤ max one.natAbs other.natAbs
  bl1 : l1.natAbs ≤ mx other
  bl2 : l2.natAbs ≤ mx one
  br1 : r1.natAbs ≤ mx other
  br2 : r2.natAbs ≤ mx one
  ph : (0 ≤ l0 * r0 ∧ r1 * l1 ≤ 0 ∧ r2 * l2 ≤ 0) ∨ (l0 = other ∧ l1 = 0 ∧ l2 = 1 ∧ r1 = 1 ∧ 1 ≤ r2 ∧ 0 ≤ l0 * r0 ∧ r0.natAbs < l0.natAbs) ∨ (l0 = one ∧ l1 = 1 ∧ l2 = 0 ∧ r0 = other ∧ r1 = 0 ∧ r2 = 1 ∧ 0 < one ∧ other < 0)
theorem BezI.start {one other : Int} (h : 0 ≤ one) : BezI one other one 1 0 other 0 1 := by
  refine ⟨by omega, by omega, ⟨1, .inl rfl, by omega, by omega⟩, by omega, by omega, by unfold mx; omega, by unfold mx; omega, by unfold mx; omega, by unfold mx; omega, ?_⟩
  by_cases h1 : 0 ≤ other
  · exact .inl ⟨Int.mul_nonneg h h1, by simp, by simp⟩
  · by_cases h2 : 0 < one
    · exact .inr (.inr ⟨rfl, rfl, rfl, rfl, rfl, rfl, h2, by omega⟩)
    · have : one = 0 := by omega
      subst this
      exact .inl ⟨by simp, by simp, by simp⟩
theorem BezI.step {one other l0 l1 l2 r0 r1 r2 : Int} (I : BezI one other l0 l1 l2 r0 r1 r2) (h : r0 ≠ 0) :
    BezI one other r0 r1 r2 (l0 - l0.fdiv r0 * r0) (l1 - l0.fdiv r0 * r1) (l2 - l0.fdiv r0 * r2) ∧ (l0 - l0.fdiv r0 * r0).natAbs < r0.natAbs := by
  have em : l0 - l0.fdiv r0 * r0 = l0.fmod r0 := by rw [Int.fmod_def, Int.mul_comm]
  have fm := fmod_sgn (x := l0) h
  rw [← em] at fm
  generalize hq : l0.fdiv r0 = q at *
  clear em
  have hbr := I.br0
  obtain ⟨s, hs, d1, d2⟩ := I.det
  have idr' : l0 - q * r0 = (l1 - q * r1) * one + (l2 - q * r2) * other := by
    have e := I.idr
    have : q * r0 = q * (r1 * one + r2 * other) := by rw [← e]
    rw [Int.sub_mul, Int.sub_mul, Int.mul_assoc, Int.mul_assoc]
    rw [Int.mul_add] at this
    have := I.idl
    omega
  have e1 : r0 * (l2 - q * r2) - (l0 - q * r0) * r2 = -s * one := by
    rw [Int.mul_sub, Int.sub_mul, Int.mul_left_comm r0 q r2, Int.mul_assoc, Int.neg_mul, ← d1, Int.mul_comm r0 l2]
    have := Int.mul_comm l2 r0
    omega
  have e2 : r0 * (l1 - q * r1) - (l0 - q * r0) * r1 = - -s * other := by
    rw [Int.mul_sub, Int.sub_mul, Int.mul_left_comm r0 q r1, Int.mul_assoc, Int.neg_mul (-s), ← d2, Int.mul_comm r0 l1]
    have := Int.mul_comm l1 r0
    omega
  have det' : ∃ s : Int, (s = 1 ∨ s = -1) ∧ r0 * (l2 - q * r2) - (l0 - q * r0) * r2 = s * one ∧ r0 * (l1 - q * r1) - (l0 - q * r0) * r1 = -s * other := ⟨-s, by omega, e1, e2⟩
  -- the signs behind the step
  have sg : (0 ≤ r0 * (l0 - q * r0) ∧ (l1 - q * r1) * r1 ≤ 0 ∧ (l2 - q * r2) * r2 ≤ 0) ∨ (r0 = other ∧ r1 = 0 ∧ r2 = 1 ∧ (l1 - q * r1) = 1 ∧ 1 ≤ (l2 - q * r2) ∧ 0 ≤ r0 * (l0 - q * r0) ∧ (l0 - q * r0).natAbs < r0.natAbs ∧ (l2 - q * r2).natAbs ≤ mx one) := by
    have sq : ∀ {x y : Int}, 0 ≤ q → y * x ≤ 0 → (x - q * y) * y ≤ 0 := fun {x y} hq0 hxy => by
      rw [Int.sub_mul, Int.mul_comm x y, Int.mul_assoc]
      have : 0 ≤ q * (y * y) := Int.mul_nonneg hq0 (by
        rcases Int.lt_or_le y 0 with hy | hy
        · exact Int.le_of_lt (Int.mul_pos_of_neg_of_neg hy hy)
        · exact Int.mul_nonneg hy hy)
      omega
    rcases I.ph with ⟨a1, a2, a3⟩ | ⟨b1, b2, b3, b4, b5, b6, b7⟩ | ⟨c1, c2, c3, c4, c5, c6, c7, c8⟩
    · have q0 : 0 ≤ q := by rw [← hq]; exact fdiv_nn a1
      exact .inl ⟨fm.2, sq q0 a2, sq q0 a3⟩
    · have q0 : 0 ≤ q := by rw [← hq]; exact fdiv_nn b6
      have q1 : 1 ≤ q := Classical.byContradiction fun z => by
        have : q = 0 := by omega
        rw [this] at fm
        have := fm.1
        omega
      refine .inl ⟨fm.2, ?_, ?_⟩
      · rw [b2, b4]
        omega
      · rw [b3]
        have h1 : 1 * 1 ≤ q * r2 := Int.mul_le_mul q1 b5 (by decide) (by omega)
        exact Int.mul_nonpos_of_nonpos_of_nonneg (by omega) (by omega)
    · subst c1 c2 c3 c4 c5 c6
      refine .inr ⟨rfl, rfl, rfl, by omega, ?_, fm.2, fm.1, ?_⟩
      · have : q < 0 := Classical.byContradiction fun z => by
          have f2 := fm.2
          have f1 := fm.1
          have : q * r0 ≤ 0 := Int.mul_nonpos_of_nonneg_of_nonpos (by omega) (by omega)
          have h3 : l0 - q * r0 ≤ 0 := Classical.byContradiction fun y => by
            have := Int.mul_neg_of_neg_of_pos c8 (show 0 < l0 - q * r0 by omega)
            omega
          omega
        omega
      · have := fdiv_abs' (x := l0) h
        rw [hq] at this
        unfold mx
        omega
  have lt : (l0 - q * r0).natAbs < r0.natAbs := fm.1
  have mul1 : ∀ {x y : Int}, x ≠ 0 → y.natAbs ≤ (x * y).natAbs := fun {x y} hx => by
    rw [Int.natAbs_mul]
    exact Nat.le_mul_of_pos_left _ (by omega)
  have sab : ∀ x : Int, (-s * x).natAbs = x.natAbs ∧ (- -s * x).natAbs = x.natAbs := fun x => by rcases hs with rfl | rfl <;> omega
  have opp : ∀ {x y x' y' : Int}, 0 ≤ x * x' → y * y' ≤ 0 → (x * y) * (x' * y') ≤ 0 := fun {x y x' y'} h1 h2 => by
    rw [Int.mul_assoc, Int.mul_left_comm y x' y', ← Int.mul_assoc]
    exact Int.mul_nonpos_of_nonneg_of_nonpos h1 h2
  refine ⟨⟨I.idr, idr', det', I.br0, by omega, I.br1, I.br2, ?_, ?_, ?_⟩, lt⟩
  · rcases sg with ⟨g1, g2, g3⟩ | ⟨g1, g2, g3, g4, g5, g6, g7, g8⟩
    · have h1 := opp_le (x := r0 * (l1 - q * r1)) (y := (l0 - q * r0) * r1) (opp g1 g2)
      rw [e2, (sab other).2] at h1
      have h2 := mul1 (y := l1 - q * r1) h
      unfold mx
      omega
    · rw [g4]; unfold mx; omega
  · rcases sg with ⟨g1, g2, g3⟩ | ⟨g1, g2, g3, g4, g5, g6, g7, g8⟩
    · have h1 := opp_le (x := r0 * (l2 - q * r2)) (y := (l0 - q * r0) * r2) (opp g1 g3)
      rw [e1, (sab one).1] at h1
      have h2 := mul1 (y := l2 - q * r2) h
      unfold mx
      omega
    · exact g8
  · rcases sg with g | ⟨g1, g2, g3, g4, g5, g6, g7, g8⟩
    · exact .inl g
    · exact .inr (.inl ⟨g1, g2, g3, g4, g5, g6, g7⟩)
structure Bez (one other g x y : Int) : Prop where
  lin : g = x * one + y * other
  nn : 0 ≤ g
  d1 : g ∣ one
  d2 : g ∣ other
  bx : x.natAbs ≤ mx other
  bY : y.natAbs ≤ mx one
theorem BezI.fin {one other l0 l1 l2 r1 r2 : Int} (I : BezI one other l0 l1 l2 0 r1 r2) : l0 ∣ one ∧ l0 ∣ other := by
  obtain ⟨s, hs, d1, d2⟩ := I.det
  refine ⟨?_, ?_⟩
  · rcases hs with rfl | rfl
    · exact ⟨r2, by omega⟩
    · exact ⟨-r2, by rw [Int.mul_neg]; omega⟩
  · rcases hs with rfl | rfl
    · exact ⟨-r1, by rw [Int.mul_neg]; omega⟩
    · exact ⟨r1, by omega⟩
theorem Bez.mk' {one other l0 l1 l2 : Int} (h : l0 = l1 * one + l2 * other) (d1 : l0 ∣ one) (d2 : l0 ∣ other) (b1 : l1.natAbs ≤ mx other) (b2 : l2.natAbs ≤ mx one) :
    if l0 < 0 then Bez one other (-l0) (-l1) (-l2) else Bez one other l0 l1 l2 := by
  split
  · exact ⟨by rw [Int.neg_mul, Int.neg_mul]; omega, by omega, Int.neg_dvd.mpr d1, Int.neg_dvd.mpr d2, by omega, by omega⟩
  · exact ⟨h, by omega, d1, d2, b1, b2⟩
theorem Bez.pos {one other g x y : Int} (B : Bez one other g x y) (h : one ≠ 0 ∨ other ≠ 0) : 0 < g := by
  have := B.nn
  refine Classical.byContradiction fun z => ?_
  have g0 : g = 0 := by omega
  have e1 := B.d1
  have e2 := B.d2
  rw [g0] at e1 e2
  rcases h with h | h
  · exact h (Int.zero_dvd.mp e1)
  · exact h (Int.zero_dvd.mp e2)
end Lat

namespace Lat
open PySem PySem.Spec PyProof.Rows L2 Mir

local macro_rules | `(tactic| walk_at "wp") => `(tactic| repeat (first
  | with_reducible refine ws_seq ?_
  | with_reducible refine ws_set ?_
  | with_reducible refine ws_ret ?_
  | with_reducible refine ws_if ?_
  | with_reducible refine ws_setI ?_
  | with_reducible refine ws_expr ?_
  | with_reducible refine ws_nil ?_
  | with_reducible refine wp_var (by with_unfolding_all rfl) ?_
  | with_reducible refine wp_c ?_
  | with_reducible refine wp_op ?_
  | with_reducible refine wp_un ?_
  | with_reducible refine wp_and ?_
  | with_reducible refine wp_or ?_
  | with_reducible refine wp_not ?_
  | with_reducible refine wp_tst ?_
  | with_reducible refine wp_tand ?_
  | with_reducible refine wp_tor ?_
  | with_reducible refine wp_tnot ?_
  | with_reducible refine wp_chain ?_
  | with_reducible refine wp_ife ?_
  | with_reducible refine wa_nil ?_
  | with_reducible refine wa_cons ?_
  | with_reducible refine wp_lst ?_
  | with_reducible refine wp_tup ?_
  | with_reducible refine wp_new ?_
  | with_reducible refine wp_fn ?_
  | with_reducible refine wp_fn1 ?_
  | with_reducible refine wp_call ?_
  | with_reducible refine wp_lm ?_
  | with_reducible refine wp_slice ?_
  | with_reducible refine wo_none ?_
  | with_reducible refine wo_some ?_
  | with_reducible refine wi_seq ?_
  | with_reducible refine wi_enum ?_
  | with_reducible refine wi_rng1 ?_
  | with_reducible refine wi_rng2 ?_
  | with_reducible refine wi_zip ?_
  | with_reducible refine wp_addI ?_
  | with_reducible refine wp_subI ?_
  | with_reducible refine wp_negI ?_
  | with_reducible refine wp_gtI ?_
  | with_reducible refine wp_ltI ?_
  | with_reducible refine wp_geI ?_
  | with_reducible refine wp_leI ?_
  | with_reducible refine wp_eqF ?_
  | with_reducible refine wp_neF ?_
  | with_reducible refine ex_bl ?_
  | (with_reducible refine if_tt ?_)
  | (with_reducible refine if_ff ?_)
  | (with_reducible refine And.intro (show List.length (List.cons _ _) ≤ 1000000 by simp only [List.length_cons, List.length_nil]; decide) ?_)
  | (with_reducible refine And.intro (show List.length List.nil ≤ 1000000 by decide) ?_)
  | (with_reducible refine And.intro (show List.length (List.cons _ _) = _ from rfl) ?_)))



/-! ### the mirrors that many laws share (printed by gen.py) -/
noncomputable def hb_bezout : SM := (sSeq (sPar 2 3 (eTup (aCons (eVar 0) (aCons (eC (.int 1)) (aCons (eC (.int 0)) aNil)))) (eTup (aCons (eVar 1) (aCons (eC (.int 0)) (aCons (eC (.int 1)) aNil))))) (sSeq (sIf (tAndM (tst (eOp (eqD true) (eVar 0) (eC (.int 0)))) (tst (eOp (eqD false) (eOp modD (eVar 1) (eVar 0)) (eC (.int 0))))) (sSet (.name 3) (eTup (aCons (eC (.int 0)) (aCons (eC (.int 0)) (aCons (eC (.int 1)) aNil))))) sNil) (sSeq (sWhile (tst (eOp (eqD true) (eOp ixD (eVar 3) (eC (.int 0))) (eC (.int 0)))) (sSeq (sSet (.name 4) (eOp fdivL (eOp ixD (eVar 2) (eC (.int 0))) (eOp ixD (eVar 3) (eC (.int 0))))) (sPar 2 3 (eVar 3) (eFn (fn1 tupleD) (aCons (eLC (itZip (eVar 2) (eVar 3)) (.tup [(.name 6), (.name 7)]) (fun _ => pure true) (eOp subD (eVar 6) (eOp mulD (eVar 4) (eVar 7))) [6, 7]) aNil))))) (sSeq (sIf (tst (eOp ltD (eOp ixD (eVar 2) (eC (.int 0))) (eC (.int 0)))) (sSet (.name 2) (eFn (fn1 tupleD) (aCons (eLC (itSeq (eVar 2)) (.name 5) (fun _ => pure true) (eUn negD (eVar 5)) [5]) aNil))) sNil) (sRet (eVar 2))))))
noncomputable def hm_bezout : List D → M D := runB 8 hb_bezout
noncomputable def hb_scale_form : SM := (sRet (eFn (fn1 tupleD) (aCons (eLC (itSeq (eVar 1)) (.name 2) (fun _ => pure true) (eOp mulD (eVar 0) (eVar 2)) [2]) aNil)))
noncomputable def hm_scale_form : List D → M D := runB 3 hb_scale_form
noncomputable def hb_combined : SM := (sRet (eFn (fn1 tupleD) (aCons (eLC (itZip (eVar 1) (eVar 3)) (.tup [(.name 4), (.name 5)]) (fun _ => pure true) (eOp addD (eOp mulD (eVar 0) (eVar 4)) (eOp mulD (eVar 2) (eVar 5))) [4, 5]) aNil)))
noncomputable def hm_combined : List D → M D := runB 6 hb_combined
noncomputable def hb_lowered : SM := (sSeq (sFor (itSeq (eFn (fn1 sortedU) (aCons (eVar 0) aNil))) (.name 3) (sIf (tst (eOp gtD (eVar 3) (eVar 1))) (sSeq (sSet (.name 4) (eOp ixD (eVar 0) (eVar 3))) (sSet (.name 2) (eCall 4 hm_combined [] (aCons (eC (.int 1)) (aCons (eVar 2) (aCons (eUn negD (eOp fdivL (eOp ixD (eVar 2) (eVar 3)) (eOp ixD (eVar 4) (eVar 3)))) (aCons (eVar 4) aNil))))))) sNil)) (sRet (eVar 2)))
noncomputable def hm_lowered : List D → M D := runB 5 hb_lowered
noncomputable def hb_add_vector : SM := (sFor (itR1 (eFn (fn1 lenD) (aCons (eVar 1) aNil))) (.name 2) (sSeq (sSet (.name 3) (eOp ixD (eVar 1) (eVar 2))) (sSeq (sIf (tAndM (tst (eOp (eqD true) (eVar 3) (eC (.int 0)))) (tst (eOp (inD true) (eVar 2) (eVar 0)))) (sSeq (sSetI (eIf (tst (eOp ltD (eVar 3) (eC (.int 0)))) (eCall 2 hm_scale_form [] (aCons (eUn negD (eC (.int 1))) (aCons (eVar 1) aNil))) (eVar 1)) (eVar 0) (eVar 2)) sRetN) sNil) (sIf (tst (eOp (eqD true) (eVar 3) (eC (.int 0)))) (sSeq (sSet (.name 4) (eOp ixD (eVar 0) (eVar 2))) (sSeq (sSet (.tup [(.name 5), (.name 6), (.name 7)]) (eCall 2 hm_bezout [] (aCons (eOp ixD (eVar 4) (eVar 2)) (aCons (eVar 3) aNil)))) (sSeq (sSet (.name 8) (eCall 4 hm_combined [] (aCons (eVar 6) (aCons (eVar 4) (aCons (eVar 7) (aCons (eVar 1) aNil)))))) (sSeq (sSet (.name 9) (eCall 4 hm_combined [] (aCons (eOp fdivL (eOp ixD (eVar 4) (eVar 2)) (eVar 5)) (aCons (eVar 1) (aCons (eUn negD (eOp fdivL (eVar 3) (eVar 5))) (aCons (eVar 4) aNil)))))) (sSeq (sSetI (eCall 3 hm_lowered [] (aCons (eVar 0) (aCons (eVar 2) (aCons (eVar 8) aNil)))) (eVar 0) (eVar 2)) (sSet (.name 1) (eCall 3 hm_lowered [] (aCons (eVar 0) (aCons (eVar 2) (aCons (eVar 9) aNil)))))))))) sNil))))
noncomputable def hm_add_vector : List D → M D := runB 10 hb_add_vector
noncomputable def hb_hermite : SM := (sSeq (sSet (.name 2) eNewDic) (sSeq (sFor (itSeq (eVar 0)) (.name 3) (sExpr (eCall 2 hm_add_vector [] (aCons (eVar 2) (aCons (eFn (fn1 tupleD) (aCons (eVar 3) aNil)) aNil))))) (sRet (eFn (fn1 tupleD) (aCons (eLC (itSeq (eFn (fn1 sortedU) (aCons (eVar 2) aNil))) (.name 4) (fun _ => pure true) (eCall 3 hm_lowered [] (aCons (eVar 2) (aCons (eVar 4) (aCons (eOp ixD (eVar 2) (eVar 4)) aNil)))) [4]) aNil)))))
noncomputable def hm_hermite : List D → M D := runB 5 hb_hermite

theorem wp_fdivL {i j : Int} {st : Sto} {Q : D → Sto → Prop} (h : j ≠ 0) (q : Q (.int (i.fdiv j)) st) : Wp (fdivL (.int i) (.int j)) st Q := ⟨_, _, okIf_true (decide_eq_true h), q⟩
theorem log_le {x : Int} {a : Nat} (h : x.natAbs < 2 ^ a) : x.natAbs.log2 ≤ a := log2_le (Nat.lt_trans h (Nat.pow_lt_pow_right (by decide) (Nat.lt_succ_self _)))
theorem wp_mulB {i j : Int} {a b : Nat} {st : Sto} {Q : D → Sto → Prop} (h1 : i.natAbs < 2 ^ a) (h2 : j.natAbs < 2 ^ b) (h : a + b < 134217000) (q : Q (.int (i * j)) st) : Wp (mulD (.int i) (.int j)) st Q :=
  wp_mulI (by have := log_le h1; have := log_le h2; omega) q

/-! ### combined, scale_form -/
def cmb (f : Int) (xs : List Int) (g : Int) (ys : List Int) : List Int := List.zipWith (fun a b => f * a + g * b) xs ys
theorem cmb_len {f g : Int} {xs ys : List Int} {n : Nat} (hx : xs.length = n) (hy : ys.length = n) : (cmb f xs g ys).length = n := by unfold cmb; rw [List.length_zipWith, hx, hy, Nat.min_self]
theorem cmb_vf {f g : Int} {xs ys : List Int} {n : Nat} (hx : xs.length = n) (hy : ys.length = n) : vf (cmb f xs g ys) = fun j => f * vf xs j + g * vf ys j := by
  funext c
  unfold vf cmb
  by_cases h : c < n
  · rw [List.getD_eq_getElem?_getD, List.getD_eq_getElem?_getD, List.getD_eq_getElem?_getD, List.getElem?_zipWith, List.getElem?_eq_getElem (by omega), List.getElem?_eq_getElem (by omega)]
    rfl
  · rw [List.getD_eq_getElem?_getD, List.getD_eq_getElem?_getD, List.getD_eq_getElem?_getD, List.getElem?_eq_none (by rw [List.length_zipWith]; omega), List.getElem?_eq_none (by omega), List.getElem?_eq_none (by omega)]
    simp
theorem zipL_ints (one other : List Int) : zipL (one.map .int) (other.map .int) = List.zipWith (fun a b => .tup [.int a, .int b]) one other := by
  unfold zipL
  rw [List.zipWith_map]
theorem mem_vf {xs : List Int} {b : Nat} (h : ∀ j, (vf xs j).natAbs < 2 ^ b) : ∀ x ∈ xs, x.natAbs < 2 ^ b := fun x hx => by
  obtain ⟨i, hi, e⟩ := mem_getD (d := 0) hx
  rw [← e]
  exact h i
/-- a row, a matrix, as tuples or lists -/
def RowV (d : D) (r : List Int) : Prop := d = .tup (r.map .int) ∨ d = .lst (r.map .int)
theorem RowV.row (r : List Int) : RowV (rowD r) r := .inl rfl
theorem RowV.seq {d : D} {r : List Int} (h : RowV d r) (st : Sto) : seqOf st d = some (r.map .int) := by rcases h with rfl | rfl <;> rfl
theorem RowV.res {d : D} {r : List Int} (h : RowV d r) (st : Sto) : resolve st d = d := by rcases h with rfl | rfl <;> rfl
theorem RowV.ix {d : D} {xs : List Int} {st : Sto} {Q : D → Sto → Prop} {j : Nat} (h : RowV d xs) (hj : j < xs.length) (q : Q (.int (xs.getD j 0)) st) : Wp (ixD d (.int j)) st Q := by
  refine wp_ixL (xs := xs.map .int) (h.seq st) (atI_at (x := .int (xs.getD j 0)) ?_) q
  rw [List.getElem?_map, List.getD_eq_getElem?_getD, List.getElem?_eq_getElem hj]
  rfl
/-- items that are such rows -/
def RowsV (ds : List D) (rs : List (List Int)) : Prop := ds.length = rs.length ∧ ∀ i x, ds[i]? = some x → RowV x (rs.getD i [])
def MatV (d : D) (rs : List (List Int)) : Prop := ∃ ds : List D, (d = .tup ds ∨ d = .lst ds) ∧ ds.length = rs.length ∧ ∀ i x, ds[i]? = some x → RowV x (rs.getD i [])
theorem RowsV.rows (rs : List (List Int)) : RowsV (rs.map rowD) rs := ⟨by rw [List.length_map], fun i x hx => by
  rw [List.getElem?_map] at hx
  cases e : rs[i]? with
  | none => rw [e] at hx; cases hx
  | some r =>
    rw [e] at hx
    cases hx
    rw [List.getD_eq_getElem?_getD, e]
    exact .inl rfl⟩
theorem MatV.mat (rs : List (List Int)) : MatV (matD rs) rs := ⟨rs.map rowD, .inl rfl, (RowsV.rows rs).1, (RowsV.rows rs).2⟩
theorem MatV.items {d : D} {rs : List (List Int)} (h : MatV d rs) : ∃ ds, (∀ st, seqOf st d = some ds) ∧ RowsV ds rs := by
  obtain ⟨ds, hd, h1, h2⟩ := h
  exact ⟨ds, fun st => by rcases hd with rfl | rfl <;> rfl, h1, h2⟩
theorem RowsV.get {ds : List D} {rs : List (List Int)} (h : RowsV ds rs) {i : Nat} {x : D} (e : ds[i]? = some x) : ∃ r, rs[i]? = some r ∧ rs.getD i [] = r ∧ RowV x r := by
  have hi := (List.getElem?_eq_some_iff.mp e).1
  have hl : i < rs.length := by rw [← h.1]; exact hi
  refine ⟨rs[i], List.getElem?_eq_getElem hl, ?_, ?_⟩
  · rw [List.getD_eq_getElem?_getD, List.getElem?_eq_getElem hl]; rfl
  · have := h.2 i x e
    rwa [List.getD_eq_getElem?_getD, List.getElem?_eq_getElem hl] at this
theorem MatV.res {d : D} {rs : List (List Int)} (h : MatV d rs) (st : Sto) : resolve st d = d := by
  obtain ⟨ds, hd, _⟩ := h
  rcases hd with rfl | rfl <;> rfl
theorem combined_okV {dx dy : D} {f g : Int} {xs ys : List Int} {a b a' b' : Nat} {st : Sto} {Q : D → Sto → Prop} (vx : RowV dx xs) (vy : RowV dy ys) (hf : f.natAbs < 2 ^ a) (hx : ∀ j, (vf xs j).natAbs < 2 ^ b) (hg : g.natAbs < 2 ^ a') (hy : ∀ j, (vf ys j).natAbs < 2 ^ b')
    (h1 : a + b < 134217000) (h2 : a' + b' < 134217000) (hl : xs.length ≤ 1000000) (q : ∀ st', Kp [] st st' → Q (rowD (cmb f xs g ys)) st') : Wp (hm_combined [.int f, dx, .int g, dy]) st Q := by
  refine ws_run ?_
  show Ws hb_combined [some (.int f), some dx, some (.int g), some dy, none, none] st _ _ _ _
  unfold hb_combined
  walk_at "wp"
  refine wl_map (fun d => match d with | .tup [.int a, .int b] => .int (f * a + g * b) | _ => .non) ?_
  walk_at "wp"
  refine ⟨xs.map .int, ys.map .int, vx.seq _, vy.seq _, ?_, fun _ _ => ⟨vx.seq _, vy.seq _⟩, fun d hd st2 k => ?_, fun st1 k1 g => ?_⟩
  · show (zipL (xs.map .int) (ys.map .int)).length ≤ 1000000
    rw [zipL_ints, List.length_zipWith]
    omega
  · replace hd : d ∈ zipL (xs.map .int) (ys.map .int) := hd
    rw [zipL_ints] at hd
    obtain ⟨i, hi, rfl⟩ := List.getElem_of_mem hd
    rw [List.getElem_zipWith]
    refine ⟨_, rfl, ?_⟩
    walk_at "wp"
    refine wp_mulB hf (mem_vf hx _ (List.getElem_mem _)) h1 ?_
    walk_at "wp"
    refine wp_mulB hg (mem_vf hy _ (List.getElem_mem _)) h2 ?_
    walk_at "wp"
    exact ⟨rfl, Kp.refl _ _⟩
  · walk_at "wp"
    refine wp_tuple (xs := (cmb f xs _ ys).map .int) ?_ (q _ k1)
    simp only [seqOf, lstOf, g, zipL_ints, cmb, List.map_zipWith]
theorem combined_ok {f g : Int} {xs ys : List Int} {a b a' b' : Nat} {st : Sto} {Q : D → Sto → Prop} (hf : f.natAbs < 2 ^ a) (hx : ∀ j, (vf xs j).natAbs < 2 ^ b) (hg : g.natAbs < 2 ^ a') (hy : ∀ j, (vf ys j).natAbs < 2 ^ b')
    (h1 : a + b < 134217000) (h2 : a' + b' < 134217000) (hl : xs.length ≤ 1000000) (q : ∀ st', Kp [] st st' → Q (rowD (cmb f xs g ys)) st') : Wp (hm_combined [.int f, rowD xs, .int g, rowD ys]) st Q := combined_okV (.row xs) (.row ys) hf hx hg hy h1 h2 hl q
theorem scale_okV {dx : D} {f : Int} {xs : List Int} {a b : Nat} {st : Sto} {Q : D → Sto → Prop} (vx : RowV dx xs) (hf : f.natAbs < 2 ^ a) (hx : ∀ j, (vf xs j).natAbs < 2 ^ b)
    (h1 : a + b < 134217000) (hl : xs.length ≤ 1000000) (q : ∀ st', Kp [] st st' → Q (rowD (xs.map fun x => f * x)) st') : Wp (hm_scale_form [.int f, dx]) st Q := by
  refine ws_run ?_
  show Ws hb_scale_form [some (.int f), some dx, none] st _ _ _ _
  unfold hb_scale_form
  walk_at "wp"
  refine wl_map (fun d => match d with | .int a => .int (f * a) | _ => .non) ?_
  walk_at "wp"
  refine ⟨xs.map .int, vx.seq _, ?_, fun _ _ => vx.seq _, fun d hd st2 k => ?_, fun st1 k1 g => ?_⟩
  · show (xs.map D.int).length ≤ 1000000
    rw [List.length_map]
    omega
  · obtain ⟨x, hx', rfl⟩ := List.mem_map.mp hd
    refine ⟨_, rfl, ?_⟩
    walk_at "wp"
    refine wp_mulB hf (mem_vf hx _ hx') h1 ?_
    exact ⟨rfl, Kp.refl _ _⟩
  · walk_at "wp"
    refine wp_tuple (xs := (xs.map fun x => f * x).map .int) ?_ (q _ k1)
    simp only [seqOf, lstOf, g, List.map_map]
    rfl
theorem scale_ok {f : Int} {xs : List Int} {a b : Nat} {st : Sto} {Q : D → Sto → Prop} (hf : f.natAbs < 2 ^ a) (hx : ∀ j, (vf xs j).natAbs < 2 ^ b)
    (h1 : a + b < 134217000) (hl : xs.length ≤ 1000000) (q : ∀ st', Kp [] st st' → Q (rowD (xs.map fun x => f * x)) st') : Wp (hm_scale_form [.int f, rowD xs]) st Q := scale_okV (.row xs) hf hx h1 hl q
theorem smul_vf {f : Int} {xs : List Int} : vf (xs.map fun x => f * x) = fun j => f * vf xs j := by
  funext c
  unfold vf
  rw [List.getD_eq_getElem?_getD, List.getD_eq_getElem?_getD, List.getElem?_map]
  cases xs[c]? with
  | none => simp
  | some x => rfl

/-! ### bezout -/
def headAbs : Option D → Nat
  | some (.tup (.int r :: _)) => r.natAbs
  | _ => 0
theorem bezout_ok {one other : Int} {s : Nat} {st : Sto} {Q : D → Sto → Prop} (h0 : 0 ≤ one) (h1 : one.natAbs < 2 ^ s) (h2 : other.natAbs < 2 ^ s) (hs : 1 ≤ s) (hs2 : 2 * s < 134217000)
    (q : ∀ g x y st', Bez one other g x y → Kp [] st st' → Q (.tup [.int g, .int x, .int y]) st') : Wp (hm_bezout [.int one, .int other]) st Q := by
  have p2 : 2 ≤ 2 ^ s := by
    have : (2 : Nat) ^ 1 ≤ 2 ^ s := Nat.pow_le_pow_right (by decide) hs
    omega
  refine ws_run ?_
  show Ws hb_bezout [some (.int one), some (.int other), none, none, none, none, none, none] st _ _ _ _
  unfold hb_bezout
  refine ws_seq (ws_par ?_)
  walk_at "wp"
  /- the end, from any last left -/
  have last : ∀ (l0 l1 l2 : Int) (e3 e4 e5 e6 e7 : Option D) (s1 : Sto), Kp [] st s1 → l0 = l1 * one + l2 * other → l0 ∣ one → l0 ∣ other → l1.natAbs ≤ mx other → l2.natAbs ≤ mx one →
      Ws (sSeq (sIf (tst (eOp ltD (eOp ixD (eVar 2) (eC (.int 0))) (eC (.int 0)))) (sSet (.name 2) (eFn (fn1 tupleD) (aCons (eLC (itSeq (eVar 2)) (.name 5) (fun _ => pure true) (eUn negD (eVar 5)) [5]) aNil))) sNil) (sRet (eVar 2)))
        [some (.int one), some (.int other), some (.tup [.int l0, .int l1, .int l2]), e3, e4, e5, e6, e7] s1 (fun _ => Q .non) Q (fun _ _ => False) (fun _ _ => False) := by
    intro l0 l1 l2 e3 e4 e5 e6 e7 s1 k1 hl d1 d2 b1 b2
    have B := Bez.mk' hl d1 d2 b1 b2
    walk_at "wp"
    refine wp_ixL rfl (e := .int l0) rfl ?_
    walk_at "wp"
    by_cases hneg : l0 < 0
    · rw [if_pos hneg] at B
      rw [decide_eq_true hneg]
      refine if_tt ?_
      walk_at "wp"
      refine wl_map (fun d => match d with | .int a => .int (-a) | _ => .non) ?_
      walk_at "wp"
      refine ⟨_, rfl, (by simp), fun _ _ => rfl, fun d hd st2 k => ?_, fun s2 k2 g => ?_⟩
      · have : d = .int l0 ∨ d = .int l1 ∨ d = .int l2 := by simpa using hd
        rcases this with rfl | rfl | rfl
        all_goals
          refine ⟨_, rfl, ?_⟩
          walk_at "wp"
          exact ⟨rfl, Kp.refl _ _⟩
      · walk_at "wp"
        refine wp_tuple (xs := [.int (-l0), .int (-l1), .int (-l2)]) (by simp only [seqOf, lstOf, g]; rfl) ?_
        walk_at "wp"
        exact q _ _ _ _ B (k1.trans k2)
    · rw [if_neg hneg] at B
      rw [decide_eq_false hneg]
      refine if_ff ?_
      walk_at "wp"
      exact q _ _ _ _ B k1
  /- the loop, from its invariant -/
  have loop : ∀ (l0 l1 l2 r0 r1 r2 : Int) (s1 : Sto), Kp [] st s1 → ((r0 = 0 ∧ l0 = l1 * one + l2 * other ∧ l0 ∣ one ∧ l0 ∣ other ∧ l1.natAbs ≤ mx other ∧ l2.natAbs ≤ mx one) ∨ BezI one other l0 l1 l2 r0 r1 r2) →
      Ws (sWhile (tst (eOp (eqD true) (eOp ixD (eVar 3) (eC (.int 0))) (eC (.int 0)))) (sSeq (sSet (.name 4) (eOp fdivL (eOp ixD (eVar 2) (eC (.int 0))) (eOp ixD (eVar 3) (eC (.int 0))))) (sPar 2 3 (eVar 3) (eFn (fn1 tupleD) (aCons (eLC (itZip (eVar 2) (eVar 3)) (.tup [(.name 6), (.name 7)]) (fun _ => pure true) (eOp subD (eVar 6) (eOp mulD (eVar 4) (eVar 7))) [6, 7]) aNil))))) [some (.int one), some (.int other), some (.tup [.int l0, .int l1, .int l2]), some (.tup [.int r0, .int r1, .int r2]), none, none, none, none] s1 (fun e s => Ws (sSeq (sIf (tst (eOp ltD (eOp ixD (eVar 2) (eC (.int 0))) (eC (.int 0)))) (sSet (.name 2) (eFn (fn1 tupleD) (aCons (eLC (itSeq (eVar 2)) (.name 5) (fun _ => pure true) (eUn negD (eVar 5)) [5]) aNil))) sNil) (sRet (eVar 2))) e s (fun _ => Q .non) Q (fun _ _ => False) (fun _ _ => False)) Q (fun _ _ => False) (fun _ _ => False) := by
    intro l0 l1 l2 r0 r1 r2 s1 k1 hI
    refine ws_while (fun env s => ∃ (l0 l1 l2 r0 r1 r2 : Int) (e4 e5 e6 e7 : Option D), env = [some (.int one), some (.int other), some (.tup [.int l0, .int l1, .int l2]), some (.tup [.int r0, .int r1, .int r2]), e4, e5, e6, e7] ∧ Kp [] st s ∧
      ((r0 = 0 ∧ l0 = l1 * one + l2 * other ∧ l0 ∣ one ∧ l0 ∣ other ∧ l1.natAbs ≤ mx other ∧ l2.natAbs ≤ mx one) ∨ BezI one other l0 l1 l2 r0 r1 r2)) (fun env _ => headAbs (env.getD 3 none)) ⟨_, _, _, _, _, _, _, _, _, _, rfl, k1, hI⟩ ?_
    rintro env s2 ⟨l0, l1, l2, r0, r1, r2, e4, e5, e6, e7, rfl, k2, hI⟩
    walk_at "wp"
    refine wp_ixL rfl (e := .int r0) rfl ?_
    walk_at "wp"
    refine if_bl (fun hr => ?_) fun hr => ?_
    · rcases hI with ⟨z, _⟩ | hI
      · exact absurd z hr
      have hst := hI.step hr
      have b0 := hI.bl0
      have br := hI.br0
      have hq : (l0.fdiv r0).natAbs < 2 ^ s := Nat.lt_of_le_of_lt (fdiv_abs' hr) (by omega)
      have mxs : ∀ {x y : Int}, x.natAbs ≤ mx y → y.natAbs < 2 ^ s → x.natAbs < 2 ^ s := fun {x y} a b => by unfold mx at a; omega
      walk_at "wp"
      refine wp_ixL rfl (e := .int l0) rfl ?_
      walk_at "wp"
      refine wp_ixL rfl (e := .int r0) rfl ?_
      refine wp_fdivL hr ?_
      walk_at "wp"
      refine ws_par ?_
      walk_at "wp"
      refine wl_map (fun d => match d with | .tup [.int a, .int b] => .int (a - l0.fdiv r0 * b) | _ => .non) ?_
      walk_at "wp"
      refine ⟨_, _, rfl, rfl, (by simp [zipL]), fun _ _ => ⟨rfl, rfl⟩, fun d hd s3 k3 => ?_, fun s3 k3 g => ?_⟩
      · have : d = .tup [.int l0, .int r0] ∨ d = .tup [.int l1, .int r1] ∨ d = .tup [.int l2, .int r2] := by simpa [zipL] using hd
        rcases this with rfl | rfl | rfl
        · refine ⟨_, rfl, ?_⟩
          walk_at "wp"
          refine wp_mulB (a := s) (b := s) hq (by omega) (by omega) ?_
          walk_at "wp"
          exact ⟨rfl, Kp.refl _ _⟩
        · refine ⟨_, rfl, ?_⟩
          walk_at "wp"
          refine wp_mulB (a := s) (b := s) hq (mxs hI.br1 h2) (by omega) ?_
          walk_at "wp"
          exact ⟨rfl, Kp.refl _ _⟩
        · refine ⟨_, rfl, ?_⟩
          walk_at "wp"
          refine wp_mulB (a := s) (b := s) hq (mxs hI.br2 h1) (by omega) ?_
          walk_at "wp"
          exact ⟨rfl, Kp.refl _ _⟩
      · walk_at "wp"
        refine wp_tuple (xs := [.int (l0 - l0.fdiv r0 * r0), .int (l1 - l0.fdiv r0 * r1), .int (l2 - l0.fdiv r0 * r2)]) (by simp only [seqOf, lstOf, g]; rfl) ?_
        exact ⟨⟨_, _, _, _, _, _, _, _, _, _, rfl, k2.trans k3, .inr hst.1⟩, hst.2⟩
    · have hr0 : r0 = 0 := Decidable.not_not.mp hr
      subst hr0
      rcases hI with ⟨_, a, b, c, d, e⟩ | hI
      · exact last l0 l1 l2 _ _ _ _ _ s2 k2 a b c d e
      · exact last l0 l1 l2 _ _ _ _ _ s2 k2 hI.idl hI.fin.1 hI.fin.2 hI.bl1 hI.bl2
  refine if_bl (fun hne => ?_) fun hne => ?_
  · walk_at "wp"
    refine wp_modI hne ?_
    walk_at "wp"
    refine if_bl (fun hm => ?_) fun hm => ?_
    · walk_at "wp"
      refine loop one 1 0 0 0 1 st (Kp.refl _ _) (.inl ⟨rfl, by omega, ⟨1, by omega⟩, ?_, by unfold mx; omega, by unfold mx; omega⟩)
      exact ⟨other.fdiv one, by have := Int.mul_fdiv_add_fmod other one; omega⟩
    · walk_at "wp"
      exact loop one 1 0 other 0 1 st (Kp.refl _ _) (.inr (BezI.start h0))
  · refine if_ff ?_
    walk_at "wp"
    exact loop one 1 0 other 0 1 st (Kp.refl _ _) (.inr (BezI.start h0))
end Lat

namespace Lat
open PySem PySem.Spec PyProof.Rows L2 Mir

local macro_rules | `(tactic| walk_at "wp") => `(tactic| repeat (first
  | with_reducible refine ws_seq ?_
  | with_reducible refine ws_set ?_
  | with_reducible refine ws_ret ?_
  | with_reducible refine ws_if ?_
  | with_reducible refine ws_setI ?_
  | with_reducible refine ws_expr ?_
  | with_reducible refine ws_nil ?_
  | with_reducible refine wp_var (by with_unfolding_all rfl) ?_
  | with_reducible refine wp_c ?_
  | with_reducible refine wp_op ?_
  | with_reducible refine wp_un ?_
  | with_reducible refine wp_and ?_
  | with_reducible refine wp_or ?_
  | with_reducible refine wp_not ?_
  | with_reducible refine wp_tst ?_
  | with_reducible refine wp_tand ?_
  | with_reducible refine wp_tor ?_
  | with_reducible refine wp_tnot ?_
  | with_reducible refine wp_chain ?_
  | with_reducible refine wp_ife ?_
  | with_reducible refine wa_nil ?_
  | with_reducible refine wa_cons ?_
  | with_reducible refine wp_lst ?_
  | with_reducible refine wp_tup ?_
  | with_reducible refine wp_new ?_
  | with_reducible refine wp_fn ?_
  | with_reducible refine wp_fn1 ?_
  | with_reducible refine wp_call ?_
  | with_reducible refine wp_lm ?_
  | with_reducible refine wp_slice ?_
  | with_reducible refine wo_none ?_
  | with_reducible refine wo_some ?_
  | with_reducible refine wi_seq ?_
  | with_reducible refine wi_enum ?_
  | with_reducible refine wi_rng1 ?_
  | with_reducible refine wi_rng2 ?_
  | with_reducible refine wi_zip ?_
  | with_reducible refine wp_addI ?_
  | with_reducible refine wp_subI ?_
  | with_reducible refine wp_negI ?_
  | with_reducible refine wp_gtI ?_
  | with_reducible refine wp_ltI ?_
  | with_reducible refine wp_geI ?_
  | with_reducible refine wp_leI ?_
  | with_reducible refine wp_eqF ?_
  | with_reducible refine wp_neF ?_
  | with_reducible refine ex_bl ?_
  | (with_reducible refine if_tt ?_)
  | (with_reducible refine if_ff ?_)
  | (with_reducible refine And.intro (show List.length (List.cons _ _) ≤ 1000000 by simp only [List.length_cons, List.length_nil]; decide) ?_)
  | (with_reducible refine And.intro (show List.length List.nil ≤ 1000000 by decide) ?_)
  | (with_reducible refine And.intro (show List.length (List.cons _ _) = _ from rfl) ?_)))



/-! ### a dict of rows -/
def toKv (p : Nat × List Int) : Key × D := (.inl (p.1 : Int), rowD p.2)
def eP (ps : List (Nat × List Int)) (c : Nat) : Option (List Int) := (ps.find? fun p => p.1 == c).map (·.2)
def eF (ps : List (Nat × List Int)) : Nat → Option Vf := fun c => (eP ps c).map vf
def putP (ps : List (Nat × List Int)) (c : Nat) (r : List Int) : List (Nat × List Int) := if ps.any (fun p => p.1 == c) then ps.map (fun p => if p.1 == c then (p.1, r) else p) else ps ++ [(c, r)]
theorem kv_dec (p : Nat × List Int) (c : Nat) : decide ((toKv p).1 = .inl (c : Int)) = (p.1 == c) := by
  unfold toKv
  by_cases h : p.1 = c
  · subst h; simp
  · rw [decide_eq_false (fun z => h (by have := Sum.inl.inj z; omega))]
    exact (beq_false_of_ne h).symm
theorem look_kv (ps : List (Nat × List Int)) (c : Nat) : lookD (ps.map toKv) (.inl (c : Int)) = (eP ps c).map rowD := by
  unfold lookD eP
  rw [List.find?_map]
  have : ((fun kv : Key × D => decide (kv.1 = .inl (c : Int))) ∘ toKv) = fun p => p.1 == c := funext fun p => kv_dec p c
  rw [this]
  cases ps.find? fun p => p.1 == c <;> rfl
theorem put_kv (ps : List (Nat × List Int)) (c : Nat) (r : List Int) : putD (ps.map toKv) (.inl (c : Int)) (rowD r) = (putP ps c r).map toKv := by
  unfold putD putP
  rw [List.any_map]
  have e1 : ((fun kv : Key × D => decide (kv.1 = .inl (c : Int))) ∘ toKv) = fun p => p.1 == c := funext fun p => kv_dec p c
  rw [e1]
  by_cases h : (ps.any fun p => p.1 == c) = true
  · rw [if_pos h, if_pos h, List.map_map, List.map_map]
    refine List.map_congr_left fun p _ => ?_
    have := kv_dec p c
    show (if (toKv p).1 = .inl (c : Int) then ((toKv p).1, rowD r) else toKv p) = toKv (if p.1 == c then (p.1, r) else p)
    by_cases e : p.1 = c
    · rw [if_pos (by unfold toKv; rw [e]), if_pos (by simpa using e)]
      rfl
    · rw [if_neg (fun z => e (by have := Sum.inl.inj z; omega)), if_neg (by simpa using e)]
  · rw [if_neg h, if_neg h, List.map_append]
    rfl
theorem eP_put (ps : List (Nat × List Int)) (c : Nat) (r : List Int) : eP (putP ps c r) = fun p => if p = c then some r else eP ps p := by
  funext p
  unfold eP putP
  by_cases h : (ps.any fun p => p.1 == c) = true
  · rw [if_pos h, List.find?_map]
    have e1 : ((fun q : Nat × List Int => q.1 == p) ∘ fun q => if q.1 == c then (q.1, r) else q) = fun q => q.1 == p := by
      funext q
      show ((if q.1 == c then (q.1, r) else q).1 == p) = _
      split <;> rfl
    rw [e1]
    by_cases e : p = c
    · subst e
      rw [if_pos rfl]
      cases e2 : ps.find? fun q => q.1 == p with
      | none =>
        obtain ⟨q, hq, hc⟩ := List.any_eq_true.mp h
        have := List.find?_eq_none.mp e2 q hq
        exact absurd hc this
      | some q =>
        have := List.find?_some e2
        simp only [Option.map_some, this, if_true]
    · rw [if_neg e]
      cases e2 : ps.find? fun q => q.1 == p with
      | none => rfl
      | some q =>
        have := List.find?_some e2
        have hne : ¬ (q.1 == c) = true := fun z => e (by
          have a : q.1 = p := by simpa using this
          have b : q.1 = c := by simpa using z
          omega)
        simp only [Option.map_some, hne, if_false]
        rfl
  · rw [if_neg h, List.find?_append]
    by_cases e : p = c
    · subst e
      rw [if_pos rfl]
      have : ps.find? (fun q => q.1 == p) = none := List.find?_eq_none.mpr fun q hq z => h (List.any_eq_true.mpr ⟨q, hq, z⟩)
      rw [this]
      simp
    · rw [if_neg e]
      have : ¬ (c == p) = true := by simpa using fun z => e z.symm
      cases ps.find? fun q => q.1 == p with
      | none => simp [this]
      | some q => rfl
theorem nodup_put {ps : List (Nat × List Int)} {c : Nat} {r : List Int} (h : (ps.map (·.1)).Nodup) : ((putP ps c r).map (·.1)).Nodup := by
  unfold putP
  by_cases a : (ps.any fun p => p.1 == c) = true
  · rw [if_pos a, List.map_map]
    have : ((fun p : Nat × List Int => p.1) ∘ fun p => if p.1 == c then (p.1, r) else p) = fun p => p.1 := by
      funext p
      show (if p.1 == c then (p.1, r) else p).1 = p.1
      split <;> rfl
    rw [this]
    exact h
  · rw [if_neg a, List.map_append, List.nodup_append]
    refine ⟨h, by simp, fun x hx y hy => ?_⟩
    obtain ⟨q, hq, rfl⟩ := List.mem_map.mp hx
    have : y = c := by simpa using hy
    subst this
    exact fun z => a (List.any_eq_true.mpr ⟨q, hq, by simpa using z⟩)
theorem keys_kv : ∀ ps : List (Nat × List Int), intKeys (ps.map toKv) = some (ps.map fun p => (p.1 : Int))
  | [] => rfl
  | p :: ps => by
    simp only [List.map_cons, toKv, intKeys]
    rw [show intKeys (ps.map toKv) = _ from keys_kv ps]
    rfl
theorem eP_mem {ps : List (Nat × List Int)} {c : Nat} : eP ps c ≠ none ↔ c ∈ ps.map (·.1) := by
  unfold eP
  constructor
  · intro h
    cases e : ps.find? fun p => p.1 == c with
    | none => rw [e] at h; exact absurd rfl h
    | some q =>
      have := List.find?_some e
      exact List.mem_map.mpr ⟨q, List.mem_of_find?_eq_some e, by simpa using this⟩
  · intro h e
    obtain ⟨q, hq, rfl⟩ := List.mem_map.mp h
    have : (ps.find? fun p => p.1 == q.1) = none := by
      cases e2 : ps.find? fun p => p.1 == q.1 with
      | none => rfl
      | some x => rw [e2] at e; cases e
    have := List.find?_eq_none.mp this q hq
    simp at this
/-- the keys in order -/
theorem keys_sorted {ps : List (Nat × List Int)} (h : (ps.map (·.1)).Nodup) : ∃ ks : List Nat, sortI (ps.map fun p => (p.1 : Int)) = ks.map (fun c : Nat => (c : Int)) ∧ ks.Pairwise (· < ·) ∧ (∀ c, c ∈ ks ↔ eP ps c ≠ none) ∧ ks.length = ps.length := by
  have pm := sortI_perm (ps.map fun p => (p.1 : Int))
  have pw := sortI_pw (ps.map fun p => (p.1 : Int))
  have e : (sortI (ps.map fun p => (p.1 : Int))) = ((sortI (ps.map fun p => (p.1 : Int))).map Int.toNat).map (fun c : Nat => (c : Int)) := by
    rw [List.map_map]
    refine (List.map_id _).symm.trans (List.map_congr_left fun x hx => ?_)
    obtain ⟨q, _, rfl⟩ := List.mem_map.mp (pm.mem_iff.mp hx)
    simp
  refine ⟨_, e, ?_, fun c => ?_, by rw [List.length_map, pm.length_eq, List.length_map]⟩
  · rw [List.pairwise_map]
    have nd : (sortI (ps.map fun p => (p.1 : Int))).Nodup := pm.nodup_iff.mpr (by
      have : (ps.map fun p => (p.1 : Int)) = (ps.map (·.1)).map (fun c : Nat => (c : Int)) := by rw [List.map_map]; rfl
      rw [this]
      exact List.pairwise_map.mpr (h.imp fun hne z => hne (by omega)))
    refine List.Pairwise.imp_of_mem (fun {a b} ha hb hab => ?_) (pw.and nd)
    obtain ⟨q, _, rfl⟩ := List.mem_map.mp (pm.mem_iff.mp ha)
    obtain ⟨q', _, rfl⟩ := List.mem_map.mp (pm.mem_iff.mp hb)
    have h1 := hab.1
    have h2 := hab.2
    omega
  · rw [eP_mem]
    constructor
    · intro hc
      obtain ⟨x, hx, rfl⟩ := List.mem_map.mp hc
      obtain ⟨q, hq, rfl⟩ := List.mem_map.mp (pm.mem_iff.mp hx)
      exact List.mem_map.mpr ⟨q, hq, by simp⟩
    · intro hc
      obtain ⟨q, hq, rfl⟩ := List.mem_map.mp hc
      exact List.mem_map.mpr ⟨(q.1 : Int), pm.mem_iff.mpr (List.mem_map.mpr ⟨q, hq, rfl⟩), by simp⟩
/-- the dict stands at a, with rows of length n below 2 ^ R -/
structure DicE (a n R : Nat) (ps : List (Nat × List Int)) (st : Sto) : Prop where
  at' : st[a]? = some (.dic (ps.map toKv))
  nd : (ps.map (·.1)).Nodup
  lt : ∀ p ∈ ps, p.1 < n
  len : ∀ p ∈ ps, p.2.length = n
theorem DicE.kp {a n R : Nat} {ps : List (Nat × List Int)} {st st' : Sto} (h : DicE a n R ps st) (k : Kp [] st st') : DicE a n R ps st' := ⟨k.at' _ _ (by simp) h.at', h.nd, h.lt, h.len⟩
theorem DicE.count {a n R : Nat} {ps : List (Nat × List Int)} {st : Sto} (h : DicE a n R ps st) : ps.length ≤ n := by
  have := nodup_len h.nd fun x hx => by
    obtain ⟨p, hp, rfl⟩ := List.mem_map.mp hx
    exact h.lt p hp
  rwa [List.length_map] at this
theorem eP_in {ps : List (Nat × List Int)} {c : Nat} {r : List Int} (h : eP ps c = some r) : (c, r) ∈ ps := by
  unfold eP at h
  cases e : ps.find? fun p => p.1 == c with
  | none => rw [e] at h; cases h
  | some q =>
    rw [e] at h
    cases h
    have := List.find?_some e
    have e2 : q.1 = c := by simpa using this
    rw [← e2]
    exact List.mem_of_find?_eq_some e
theorem eF_some {ps : List (Nat × List Int)} {c : Nat} {x : Vf} (h : eF ps c = some x) : ∃ r, eP ps c = some r ∧ x = vf r := by
  unfold eF at h
  cases e : eP ps c with
  | none => rw [e] at h; cases h
  | some r =>
    rw [e] at h
    exact ⟨r, rfl, (Option.some.inj h).symm⟩
theorem eF_none {ps : List (Nat × List Int)} {c : Nat} : eF ps c = none ↔ eP ps c = none := by
  unfold eF
  cases eP ps c <;> simp
theorem eF_put (ps : List (Nat × List Int)) (c : Nat) (r : List Int) : eF (putP ps c r) = updE (eF ps) c (vf r) := by
  funext p
  unfold eF updE
  rw [eP_put]
  by_cases h : p = c
  · simp [h]
  · simp [h]
section
variable {a n R : Nat} {ps : List (Nat × List Int)} {st : Sto} {Q : D → Sto → Prop} {c : Nat} {r : List Int}
theorem wp_dget (h : DicE a n R ps st) (e : eP ps c = some r) (q : Q (rowD r) st) : Wp (ixD (.obj a) (.int c)) st Q := by
  refine ⟨_, _, ?_, q⟩
  simp only [ixD, seqOf, lstOf, h.at', dicOf, keyD, look_kv, e, Option.map_some]
theorem wp_dnin (h : DicE a n R ps st) (q : Q (.bl (decide (eP ps c = none))) st) : Wp (inD true (.int c) (.obj a)) st Q := by
  refine ⟨_, _, ?_, q⟩
  simp only [inD, seqOf, lstOf, h.at', dicOf, keyD, look_kv]
  cases eP ps c <;> simp
theorem wp_dput {Q : Unit → Sto → Prop} (h : DicE a n R ps st) (hc : c < n) (hl : r.length = n) (hn : n ≤ 1000) (q : DicE a n R (putP ps c r) (st.set a (.dic ((putP ps c r).map toKv))) → Q () (st.set a (.dic ((putP ps c r).map toKv)))) : Wp (setD (.obj a) (.int c) (rowD r)) st Q := by
  refine ⟨(), _, ?_, q ⟨set_get h.at', nodup_put h.nd, fun p hp => ?_, fun p hp => ?_⟩⟩
  · have := h.count
    simp only [setD, h.at', keyD]
    rw [szOk_of (by rw [List.length_map]; omega), if_pos rfl, put_kv]
  · unfold putP at hp
    split at hp
    · obtain ⟨x, hx, rfl⟩ := List.mem_map.mp hp
      split
      · exact h.lt x hx
      · exact h.lt x hx
    · rcases List.mem_append.mp hp with hp | hp
      · exact h.lt p hp
      · rw [List.mem_singleton.mp hp]; exact hc
  · unfold putP at hp
    split at hp
    · obtain ⟨x, hx, rfl⟩ := List.mem_map.mp hp
      split
      · exact hl
      · exact h.len x hx
    · rcases List.mem_append.mp hp with hp | hp
      · exact h.len p hp
      · rw [List.mem_singleton.mp hp]; exact hl
theorem wp_sortedDic (h : DicE a n R ps st) (hn : n < 64) {ks : List Nat} (hk : sortI (ps.map fun p => (p.1 : Int)) = ks.map (fun c : Nat => (c : Int))) (q : Q (.lst (ks.map fun c : Nat => D.int c)) st) : Wp (sortedU (.obj a)) st Q := by
  refine ⟨_, _, ?_, q⟩
  have := h.count
  simp only [sortedU, dicOf, h.at', keys_kv, hk]
  rw [List.map_map]
  exact okIf_true (decide_eq_true (by rw [List.length_map]; omega))
end
end Lat

namespace Lat
open PySem PySem.Spec PyProof.Rows L2 Mir

local macro_rules | `(tactic| walk_at "wp") => `(tactic| repeat (first
  | with_reducible refine ws_seq ?_
  | with_reducible refine ws_set ?_
  | with_reducible refine ws_ret ?_
  | with_reducible refine ws_if ?_
  | with_reducible refine ws_setI ?_
  | with_reducible refine ws_expr ?_
  | with_reducible refine ws_nil ?_
  | with_reducible refine wp_var (by with_unfolding_all rfl) ?_
  | with_reducible refine wp_c ?_
  | with_reducible refine wp_op ?_
  | with_reducible refine wp_un ?_
  | with_reducible refine wp_and ?_
  | with_reducible refine wp_or ?_
  | with_reducible refine wp_not ?_
  | with_reducible refine wp_tst ?_
  | with_reducible refine wp_tand ?_
  | with_reducible refine wp_tor ?_
  | with_reducible refine wp_tnot ?_
  | with_reducible refine wp_chain ?_
  | with_reducible refine wp_ife ?_
  | with_reducible refine wa_nil ?_
  | with_reducible refine wa_cons ?_
  | with_reducible refine wp_lst ?_
  | with_reducible refine wp_tup ?_
  | with_reducible refine wp_new ?_
  | with_reducible refine wp_fn ?_
  | with_reducible refine wp_fn1 ?_
  | with_reducible refine wp_call ?_
  | with_reducible refine wp_lm ?_
  | with_reducible refine wp_slice ?_
  | with_reducible refine wo_none ?_
  | with_reducible refine wo_some ?_
  | with_reducible refine wi_seq ?_
  | with_reducible refine wi_enum ?_
  | with_reducible refine wi_rng1 ?_
  | with_reducible refine wi_rng2 ?_
  | with_reducible refine wi_zip ?_
  | with_reducible refine wp_addI ?_
  | with_reducible refine wp_subI ?_
  | with_reducible refine wp_negI ?_
  | with_reducible refine wp_gtI ?_
  | with_reducible refine wp_ltI ?_
  | with_reducible refine wp_geI ?_
  | with_reducible refine wp_leI ?_
  | with_reducible refine wp_eqF ?_
  | with_reducible refine wp_neF ?_
  | with_reducible refine ex_bl ?_
  | (with_reducible refine if_tt ?_)
  | (with_reducible refine if_ff ?_)
  | (with_reducible refine And.intro (show List.length (List.cons _ _) ≤ 1000000 by simp only [List.length_cons, List.length_nil]; decide) ?_)
  | (with_reducible refine And.intro (show List.length List.nil ≤ 1000000 by decide) ?_)
  | (with_reducible refine And.intro (show List.length (List.cons _ _) = _ from rfl) ?_)))



theorem lowered_ok {a n R t col : Nat} {ps : List (Nat × List Int)} {v : List Int} {st : Sto} {Q : D → Sto → Prop} (h : DicE a n R ps st) (hn : n < 64) (hv : v.length = n)
    (pos : ∀ c r, col < c → eP ps c = some r → (∀ j < c, vf r j = 0) ∧ 0 < vf r c) (rb : ∀ c r, col < c → eP ps c = some r → ∀ j, (vf r j).natAbs < 2 ^ R) (vb : ∀ j, (vf v j).natAbs < 2 ^ t) (ht : t + n * (R + 1) + R + 2 < 134217000)
    (fin : ∀ u st', u.length = n → Low (eF ps) col (vf v) (vf u) → Kp [] st st' → Q (rowD u) st') : Wp (hm_lowered [.obj a, .int col, rowD v]) st Q := by
  obtain ⟨ks, hk, kp, km, kl⟩ := keys_sorted h.nd
  have kn : ks.length ≤ n := by rw [kl]; exact h.count
  refine ws_run ?_
  show Ws hb_lowered [some (.obj a), some (.int col), some (rowD v), none, none] st _ _ _ _
  unfold hb_lowered
  refine ws_seq (ws_for (ks.map (fun c : Nat => D.int c), fun st' => seqOf st' (.lst (ks.map fun c : Nat => D.int c)) = some (ks.map fun c : Nat => D.int c))
    (fun i env s => ∃ (u : List Int) (w3 w4 : Option D), env = [some (.obj a), some (.int col), some (rowD u), w3, w4] ∧ u.length = n ∧ Kp [] st s ∧ Spn (fun x => ∃ p, col < p ∧ eF ps p = some x) (fun j => vf v j - vf u j) ∧ (∀ j ≤ col, vf u j = vf v j) ∧
      (∀ i' < i, ∀ r, col < ks.getD i' 0 → eP ps (ks.getD i' 0) = some r → 0 ≤ vf u (ks.getD i' 0) ∧ vf u (ks.getD i' 0) < vf r (ks.getD i' 0)) ∧ ∀ j, (vf u j).natAbs < 2 ^ (t + i * (R + 1))) ?_ ?_ ?_ ?_)
  · walk_at "wp"
    refine wp_sortedDic h hn hk ⟨_, rfl, rfl, v, _, _, rfl, hv, Kp.refl _ _, Spn.zero.cast fun j => by omega, fun _ _ => rfl, fun i' hi' => absurd hi' (Nat.not_lt_zero _), fun j => by simpa using vb j⟩
  · intro i env s _
    rfl
  · rintro i d env s hd ⟨u, w3, w4, rfl, hu, k, sp, eq, red, ub⟩
    rw [List.getElem?_map] at hd
    cases ek : ks[i]? with
    | none => rw [ek] at hd; cases hd
    | some p =>
    rw [ek] at hd
    cases hd
    have hi := (List.getElem?_eq_some_iff.mp ek).1
    have hpi : ks.getD i 0 = p := by rw [List.getD_eq_getElem?_getD, ek]; rfl
    have hs := h.kp k
    refine ⟨_, rfl, ?_⟩
    walk_at "wp"
    have mono : ∀ {x : Int}, x.natAbs < 2 ^ (t + i * (R + 1)) → x.natAbs < 2 ^ (t + (i + 1) * (R + 1)) := fun hx => Nat.lt_of_lt_of_le hx (Nat.pow_le_pow_right (by decide) (by rw [Nat.add_mul]; omega))
    have hin : (i + 1) * (R + 1) ≤ n * (R + 1) := Nat.mul_le_mul_right _ (by omega)
    have hin2 : (i + 1) * (R + 1) = i * (R + 1) + (R + 1) := by rw [Nat.add_mul, Nat.one_mul]
    refine if_bl (fun hp => ?_) fun hp => ?_
    · have hne : eP ps p ≠ none := (km p).mp (List.mem_of_getElem? ek)
      cases er : eP ps p with
      | none => exact absurd er hne
      | some r =>
      have hr := h.len _ (eP_in er)
      have hpn := h.lt _ (eP_in er)
      have hpos := pos p r (by omega) er
      have hrb := rb p r (by omega) er
      replace hr : r.length = n := hr
      replace hpn : p < n := hpn
      walk_at "wp"
      refine wp_dget hs er ?_
      walk_at "wp"
      refine wp_ixR (xs := u) (by omega) ?_
      walk_at "wp"
      refine wp_ixR (xs := r) (by omega) ?_
      have hd0 : r.getD p 0 ≠ 0 := by have : 0 < r.getD p 0 := hpos.2; omega
      refine wp_fdivL hd0 ?_
      walk_at "wp"
      have hq : (-((u.getD p 0).fdiv (r.getD p 0))).natAbs < 2 ^ (t + i * (R + 1)) := by
        rw [Int.natAbs_neg]
        exact Nat.lt_of_le_of_lt (fdiv_abs' hd0) (ub p)
      refine combined_ok (a := 1) (b := t + i * (R + 1)) (a' := t + i * (R + 1)) (b' := R) (by decide) ub hq hrb (by omega) (by omega) (by omega) fun s1 k1 => ?_
      walk_at "wp"
      have hvf := cmb_vf (f := 1) (g := -((u.getD p 0).fdiv (r.getD p 0))) hu hr
      have hvj : ∀ j, vf (cmb 1 u (-((u.getD p 0).fdiv (r.getD p 0))) r) j = vf u j - (u.getD p 0).fdiv (r.getD p 0) * vf r j := fun j => by
        rw [hvf]
        show 1 * vf u j + -((u.getD p 0).fdiv (r.getD p 0)) * vf r j = _
        rw [Int.neg_mul]
        omega
      refine ⟨_, _, _, rfl, cmb_len hu hr, k.trans k1, ?_, fun j hj => ?_, fun i' hi' r' hc' he' => ?_, fun j => ?_⟩
      · have z : Spn (fun x => ∃ p, col < p ∧ eF ps p = some x) (vf r) := .of ⟨p, by omega, by unfold eF; rw [er]; rfl⟩
        exact (sp.plus (z.mul ((u.getD p 0).fdiv (r.getD p 0)))).cast fun j => by rw [hvj]; omega
      · rw [hvj, hpos.1 j (by omega), Int.mul_zero, ← eq j hj]
        omega
      · rw [hvj]
        by_cases e : i' = i
        · subst e
          rw [hpi] at he' ⊢
          rw [er] at he'
          cases he'
          have f := fmod_rng (i := u.getD p 0) (j := r.getD p 0) hpos.2
          have e1 := Int.mul_fdiv_add_fmod (u.getD p 0) (r.getD p 0)
          have e2 : vf u p - (u.getD p 0).fdiv (r.getD p 0) * vf r p = (u.getD p 0).fmod (r.getD p 0) := by
            show u.getD p 0 - (u.getD p 0).fdiv (r.getD p 0) * r.getD p 0 = _
            rw [Int.mul_comm]
            omega
          rw [e2]
          exact f
        · have hlt : ks.getD i' 0 < p := by rw [← hpi]; exact cols_lt kp (by omega) hi
          rw [hpos.1 _ hlt, Int.mul_zero]
          have := red i' (by omega) r' hc' he'
          omega
      · rw [hvj]
        have b1 := ub j
        have b2 := big (x := (u.getD p 0).fdiv (r.getD p 0)) (y := vf r j) (s := t + i * (R + 1)) (t := R) (by rw [Int.natAbs_neg] at hq; omega) (Nat.le_of_lt (hrb j))
        have b3 := Int.natAbs_sub_le (vf u j) ((u.getD p 0).fdiv (r.getD p 0) * vf r j)
        have b4 : (2 : Nat) ^ (t + (i + 1) * (R + 1)) = 2 * 2 ^ (t + i * (R + 1) + R) := by rw [hin2, show t + (i * (R + 1) + (R + 1)) = (t + i * (R + 1) + R) + 1 by omega, Nat.pow_succ, Nat.mul_comm]
        have b5 : (2 : Nat) ^ (t + i * (R + 1)) ≤ 2 ^ (t + i * (R + 1) + R) := Nat.pow_le_pow_right (by decide) (by omega)
        omega
    · walk_at "wp"
      refine ⟨_, _, _, rfl, hu, k, sp, eq, fun i' hi' r' hc' he' => ?_, fun j => mono (ub j)⟩
      by_cases e : i' = i
      · subst e
        rw [hpi] at hc'
        omega
      · exact red i' (by omega) r' hc' he'
  · rintro env s ⟨u, w3, w4, rfl, hu, k, sp, eq, red, ub⟩
    walk_at "wp"
    refine fin u s hu ⟨sp, eq, fun p x hp hx => ?_⟩ k
    obtain ⟨r, er, rfl⟩ := eF_some hx
    obtain ⟨i, hi, hip⟩ := mem_getD (d := 0) ((km p).mpr (by rw [er]; simp))
    have := red i (by rw [List.length_map]; exact hi) r (by rw [hip]; exact hp) (by rw [hip]; exact er)
    rw [hip] at this
    exact this

theorem Low.congr {E E' : Nat → Option Vf} {c : Nat} {v u : Vf} (h : Low E c v u) (e : ∀ p, c < p → E p = E' p) : Low E' c v u :=
  ⟨h.sp.mono fun x ⟨p, hp, hx⟩ => ⟨p, hp, by rw [← e p hp]; exact hx⟩, h.eq, fun p r hp hr => h.red p r hp (by rw [e p hp]; exact hr)⟩
theorem Cert.up {V : Vf → Prop} {n G G' : Nat} {d : Int} {L : List (Nat × Vf)} (C : Cert V n G d L) (h : G ≤ G') : Cert V n G' d L :=
  ⟨C.dpos, Nat.lt_of_lt_of_le C.dsz (Nat.pow_le_pow_right (by decide) h), C.mem, C.lt, C.lead, C.diag, C.off, C.nd, C.rel, fun q hq c => Nat.lt_of_lt_of_le (C.sz q hq c) (Nat.pow_le_pow_right (by decide) h), C.top⟩
theorem fdiv_e {x g : Int} (h : 0 < g) : x.fdiv g = x / g := Int.fdiv_eq_ediv_of_nonneg x (by omega)
theorem add_ok {a n G R b : Nat} {S : Vf → Prop} {d : Int} {L : List (Nat × Vf)} {ps : List (Nat × List Int)} {g : List Int} {st : Sto} {Q : D → Sto → Prop} (h : DicE a n R ps st) (O : Out n R S (eF ps)) (C : Cert (Spn S) n G d L) (hn : n ≤ 15) (hbG : b ≤ G) (hg : g.length = n) (gb : ∀ j, (vf g j).natAbs < 2 ^ b)
    (hR : R = n * G + G + b + 6 + G) (hB : (n + 4) * (R + 2) < 134217000) (fin : ∀ ps' st', DicE a n R ps' st' → Out n R (fun x => S x ∨ x = vf g) (eF ps') → Kp [a] st st' → Q .non st') : Wp (hm_add_vector [.obj a, rowD g]) st Q := by
  have hL : L.length ≤ 15 := Nat.le_trans C.len hn
  have hB' : n * R + 2 * n + 4 * R + 8 < 134217000 := by
    have : (n + 4) * (R + 2) = n * R + 2 * n + 4 * R + 8 := by rw [Nat.add_mul, Nat.mul_add, Nat.mul_add]; omega
    omega
  have hnR : n * (R + 1) = n * R + n := by rw [Nat.mul_add, Nat.mul_one]
  have R2 : 2 ≤ 2 ^ R := by
    have : (2 : Nat) ^ 1 ≤ 2 ^ R := Nat.pow_le_pow_right (by decide) (by omega)
    omega
  refine ws_run ?_
  show Ws hb_add_vector [some (.obj a), some (rowD g), none, none, none, none, none, none, none, none] st _ _ _ _
  unfold hb_add_vector
  refine ws_for (rngL 0 (n : Int), fun _ => True)
    (fun c env s => ∃ (ps1 : List (Nat × List Int)) (v : List Int) (w2 w3 w4 w5 w6 w7 w8 w9 : Option D), env = [some (.obj a), some (rowD v), w2, w3, w4, w5, w6, w7, w8, w9] ∧ DicE a n R ps1 s ∧ Kp [a] st s ∧ v.length = n ∧ AddInv n G R b S d L (eF ps) (vf g) c (eF ps1) (vf v)) ?_ ?_ ?_ ?_
  · walk_at "wp"
    refine wp_len (xs := g.map .int) rfl ⟨n, by rw [List.length_map, hg], by omega, by omega, rfl, ps, g, _, _, _, _, _, _, _, _, rfl, h, Kp.refl _ _, hg, AddInv.start O hbG gb (vf_top hg)⟩
  · exact fun _ _ _ _ => trivial
  · rintro c d' env s hd ⟨ps1, v, w2, w3, w4, w5, w6, w7, w8, w9, rfl, hs, k, hv, I⟩
    obtain ⟨rfl, hc⟩ := rngL_get hd
    rw [Int.zero_add] at *
    have hcn : c < n := by omega
    have vb := I.small O C hL gb (by omega) hR
    refine ⟨_, rfl, ?_⟩
    walk_at "wp"
    refine wp_ixR (by omega) ?_
    walk_at "wp"
    by_cases h0 : v.getD c 0 = 0
    · rw [decide_eq_false (by simpa using h0)]
      refine if_ff (if_ff ?_)
      walk_at "wp"
      rw [decide_eq_false (by simpa using h0)]
      refine if_ff ?_
      walk_at "wp"
      exact ⟨ps1, v, _, _, _, _, _, _, _, _, rfl, hs, k, hv, I.skip h0⟩
    · rw [decide_eq_true h0]
      refine if_tt ?_
      walk_at "wp"
      refine wp_dnin hs ?_
      walk_at "wp"
      cases er : eP ps1 c with
      | none =>
        rw [decide_eq_true rfl]
        refine if_tt ?_
        walk_at "wp"
        by_cases hneg : v.getD c 0 < 0
        · rw [decide_eq_true hneg]
          refine if_tt ?_
          walk_at "wp"
          refine scale_ok (a := 1) (b := R) (by decide) vb (by omega) (by omega) fun s1 k1 => ?_
          walk_at "wp"
          refine wp_dput (hs.kp k1) hcn (by rw [List.length_map]; exact hv) (by omega) fun hs2 => ?_
          walk_at "wp"
          refine ws_retN (fin _ _ hs2 ?_ ((k.trans (k1.more (by simp))).put (by simp) _))
          rw [eF_put, smul_vf]
          exact I.new (.inr rfl) (eF_none.mpr er) (show 0 < -1 * v.getD c 0 by omega) vb
        · rw [decide_eq_false hneg]
          refine if_ff ?_
          walk_at "wp"
          refine wp_dput hs hcn hv (by omega) fun hs2 => ?_
          walk_at "wp"
          refine ws_retN (fin _ _ hs2 ?_ (k.put (by simp) _))
          rw [eF_put]
          have := I.new (s := 1) (.inl rfl) (eF_none.mpr er) (show 0 < 1 * v.getD c 0 by omega) vb
          rwa [show (fun j => 1 * vf v j) = vf v from funext fun j => by omega] at this
      | some r =>
        rw [decide_eq_false (by simp)]
        refine if_ff ?_
        walk_at "wp"
        rw [decide_eq_true h0]
        refine if_tt ?_
        walk_at "wp"
        have hr : r.length = n := hs.len _ (eP_in er)
        have eF_r : eF ps1 c = some (vf r) := by unfold eF; rw [er]; rfl
        have ho := I.ech.ok c _ eF_r
        have rb := I.eb c _ eF_r
        have pos : ∀ p w, c < p → eP ps1 p = some w → (∀ j < p, vf w j = 0) ∧ 0 < vf w p := fun p w _ e => (I.ech.ok p (vf w) (by unfold eF; rw [e]; rfl)).2
        have rbs : ∀ p w, c < p → eP ps1 p = some w → ∀ j, (vf w j).natAbs < 2 ^ R := fun p w _ e => I.eb p (vf w) (by unfold eF; rw [e]; rfl)
        refine wp_dget hs er ?_
        walk_at "wp"
        refine ws_setT ?_
        walk_at "wp"
        refine wp_ixR (by omega) ?_
        walk_at "wp"
        refine bezout_ok (s := R) (Int.le_of_lt ho.2.2) (rb c) (vb c) (by omega) (by omega) fun gg al be s1 B k1 => ?_
        have gpos := B.pos (.inr h0)
        have mxs : ∀ {x y : Int}, x.natAbs ≤ mx y → y.natAbs < 2 ^ R → x.natAbs < 2 ^ R := fun {x y} a b => by unfold mx at a; omega
        have alb := mxs B.bx (vb c)
        have beb := mxs B.bY (rb c)
        refine ⟨_, rfl, ?_⟩
        walk_at "wp"
        refine combined_ok (a := R) (b := R) (a' := R) (b' := R) alb rb beb vb (by omega) (by omega) (by omega) fun s2 k2 => ?_
        walk_at "wp"
        refine wp_ixR (xs := r) (by omega) ?_
        walk_at "wp"
        refine wp_fdivL (j := gg) (by omega) ?_
        walk_at "wp"
        refine wp_fdivL (j := gg) (by omega) ?_
        walk_at "wp"
        have q1 : ((r.getD c 0).fdiv gg).natAbs < 2 ^ R := Nat.lt_of_le_of_lt (fdiv_abs' (by omega)) (rb c)
        have q2 : (-((v.getD c 0).fdiv gg)).natAbs < 2 ^ R := by rw [Int.natAbs_neg]; exact Nat.lt_of_le_of_lt (fdiv_abs' (by omega)) (vb c)
        refine combined_ok (a := R) (b := R) (a' := R) (b' := R) q1 vb q2 rb (by omega) (by omega) (by omega) fun s3 k3 => ?_
        walk_at "wp"
        have hs3 := ((hs.kp k1).kp k2).kp k3
        have cb : ∀ {f g' : Int} {xs ys : List Int}, xs.length = n → ys.length = n → f.natAbs < 2 ^ R → g'.natAbs < 2 ^ R → (∀ j, (vf xs j).natAbs < 2 ^ R) → (∀ j, (vf ys j).natAbs < 2 ^ R) → ∀ j, (vf (cmb f xs g' ys) j).natAbs < 2 ^ (2 * R + 2) := fun {f g' xs ys} h1 h2 h3 h4 h5 h6 j => by
          rw [cmb_vf h1 h2]
          have a1 := big (Nat.le_of_lt h3) (Nat.le_of_lt (h5 j))
          have a2 := big (Nat.le_of_lt h4) (Nat.le_of_lt (h6 j))
          have a3 := Int.natAbs_add_le (f * vf xs j) (g' * vf ys j)
          have a4 : (2 : Nat) ^ (2 * R + 2) = 4 * 2 ^ (R + R) := by rw [Nat.pow_add, Nat.mul_comm, Nat.two_mul]
          have := Nat.two_pow_pos (R + R)
          show (f * vf xs j + g' * vf ys j).natAbs < _
          omega
        refine lowered_ok (t := 2 * R + 2) (R := R) hs3 (by omega) (cmb_len hr hv) pos rbs (cb hr hv alb beb rb vb) (by omega) fun u s4 hu lu k4 => ?_
        walk_at "wp"
        have hs4 := hs3.kp k4
        refine wp_dput hs4 hcn hu (by omega) fun hs5 => ?_
        have k5 : Kp [a] st (s4.set a (.dic ((putP ps1 c u).map toKv))) := ((((k.trans (k1.more (by simp))).trans (k2.more (by simp))).trans (k3.more (by simp))).trans (k4.more (by simp))).put (by simp) _
        generalize s4.set a (.dic ((putP ps1 c u).map toKv)) = s5 at hs5 k5 ⊢
        have old : ∀ p w, c < p → eP (putP ps1 c u) p = some w → eP ps1 p = some w := fun p w hp e => by
          rw [eP_put] at e
          simpa only [show p ≠ c by omega, if_false] using e
        walk_at "wp"
        refine lowered_ok (t := 2 * R + 2) (R := R) hs5 (by omega) (cmb_len hv hr) (fun p w hp e => pos p w hp (old p w hp e)) (fun p w hp e => rbs p w hp (old p w hp e)) (cb hv hr q1 q2 vb rb) (by omega) fun t s6 ht lt k6 => ?_
        have lt' : Low (eF ps1) c (vf (cmb ((r.getD c 0).fdiv gg) v (-((v.getD c 0).fdiv gg)) r)) (vf t) := lt.congr fun p hp => by rw [eF_put, updE_ne (by omega)]
        rw [cmb_vf hr hv] at lu
        rw [cmb_vf hv hr, fdiv_e gpos, fdiv_e gpos] at lt'
        refine ⟨putP ps1 c u, t, _, _, _, _, _, _, _, _, rfl, hs5.kp k6, k5.trans (k6.more (by simp)), ht, ?_⟩
        rw [eF_put]
        exact I.turn O C hL gb hcn hR eF_r gpos B.lin B.d1 B.d2 B.bY lu lt' (vf_top hu) (vf_top ht)
  · rintro env s ⟨ps1, v, w2, w3, w4, w5, w6, w7, w8, w9, rfl, hs, k, hv, I⟩
    exact fin ps1 s hs (I.fin (by rw [show (rngL 0 (n : Int), fun _ : Sto => True).1 = rngL 0 n from rfl, rngL_len]; omega)) k
end Lat

namespace Lat

/-! ### small relations -/
theorem pigeon {N M : Nat} (h : M < N) (f : Nat → Nat) (hf : ∀ i < N, f i < M) : ∃ i j, i < j ∧ j < N ∧ f i = f j := by
  refine Classical.byContradiction fun no => ?_
  have nd : ((List.range N).map f).Nodup := by
    rw [List.Nodup, List.pairwise_map]
    refine List.Pairwise.imp_of_mem ?_ (List.pairwise_lt_range (n := N))
    intro i j hi hj hij e
    exact no ⟨i, j, hij, List.mem_range.mp hj, e⟩
  have := nodup_len nd fun x hx => by
    obtain ⟨i, hi, rfl⟩ := List.mem_map.mp hx
    exact hf i (List.mem_range.mp hi)
  rw [List.length_map, List.length_range] at this
  omega
theorem dg_eq {B i j : Nat} : ∀ {r : Nat}, (∀ t < r, i / B ^ t % B = j / B ^ t % B) → i % B ^ r = j % B ^ r
  | 0, _ => by simp [Nat.mod_one]
  | r + 1, h => by
    rw [Nat.pow_succ, Nat.mod_mul, Nat.mod_mul, dg_eq (r := r) fun t ht => h t (by omega), h r (by omega)]
def cd (M : Nat) : Nat → (Nat → Nat) → Nat
  | 0, _ => 0
  | r + 1, v => cd M r v + v r * M ^ r
theorem cd_lt {M : Nat} {v : Nat → Nat} : ∀ {r : Nat}, (∀ t < r, v t < M) → cd M r v < M ^ r
  | 0, _ => by simp [cd]
  | r + 1, h => by
    have a := cd_lt (r := r) fun t ht => h t (by omega)
    have b : v r + 1 ≤ M := h r (by omega)
    have c := Nat.mul_le_mul_right (M ^ r) b
    rw [Nat.add_mul] at c
    simp only [cd, Nat.pow_succ, Nat.mul_comm (M ^ r) M]
    omega
theorem cd_eq {M : Nat} {u v : Nat → Nat} : ∀ {r : Nat}, (∀ t < r, u t < M) → (∀ t < r, v t < M) → cd M r u = cd M r v → ∀ t < r, u t = v t
  | 0, _, _, _ => fun t h => absurd h (Nat.not_lt_zero _)
  | r + 1, hu, hv, e => by
    have a := cd_lt (r := r) fun t ht => hu t (by omega)
    have b := cd_lt (r := r) fun t ht => hv t (by omega)
    simp only [cd] at e
    have m0 : 0 < M ^ r := by omega
    have e1 : u r = v r := by
      have x := congrArg (· / M ^ r) e
      rw [Nat.add_mul_div_right _ _ m0, Nat.add_mul_div_right _ _ m0, Nat.div_eq_of_lt a, Nat.div_eq_of_lt b] at x
      omega
    rw [e1] at e
    have ih := cd_eq (r := r) (fun t ht => hu t (by omega)) (fun t ht => hv t (by omega)) (by omega)
    intro t ht
    by_cases q : t = r
    · rw [q]; exact e1
    · exact ih t (by omega)
theorem sm_abs' {f : Nat → Int} {t : Nat} : ∀ {n : Nat}, (∀ i < n, (f i).natAbs ≤ t) → (sm n f).natAbs ≤ n * t
  | 0, _ => by simp [sm]
  | n + 1, h => by
    have a := sm_abs' (n := n) fun i hi => h i (by omega)
    have b := h n (by omega)
    have c := Int.natAbs_add_le (sm n f) (f n)
    simp only [sm, Nat.add_mul, Nat.one_mul]
    omega
theorem sm_sub {f g : Nat → Int} : ∀ {n : Nat}, sm n (fun i => f i - g i) = sm n f - sm n g
  | 0 => rfl
  | n + 1 => by simp only [sm, sm_sub (n := n)]; omega
/-- r equations, r + 1 unknowns -/
theorem siegel {r b : Nat} (hr : r ≤ 15) (a : Nat → Nat → Int) (ha : ∀ j < r, ∀ i < r + 1, (a j i).natAbs < 2 ^ b) :
    ∃ k : Nat → Int, (∃ i, i < r + 1 ∧ k i ≠ 0) ∧ (∀ i, (k i).natAbs ≤ 2 ^ ((b + 5) * r)) ∧ ∀ j < r, sm (r + 1) (fun i => k i * a j i) = 0 := by
  generalize hK : 2 ^ ((b + 5) * r) = K
  have K0 : 0 < K := hK ▸ Nat.two_pow_pos _
  generalize hB : K + 1 = B
  generalize hA : 2 ^ (b + 4) * K = A
  generalize hM : 2 * A + 1 = M
  have B0 : 0 < B := by omega
  have hN : M ^ r < B ^ (r + 1) := by
    have h1 : M ≤ 2 ^ (b + 5) * B := by
      have : (2 : Nat) ^ (b + 5) = 2 * 2 ^ (b + 4) := by rw [Nat.pow_succ, Nat.mul_comm]
      rw [this, ← hB, Nat.mul_add, ← hM, ← hA, Nat.mul_assoc]
      have := Nat.two_pow_pos (b + 4)
      omega
    have h2 := Nat.pow_le_pow_left h1 r
    rw [Nat.mul_pow, ← Nat.pow_mul, hK] at h2
    have h3 : 0 < B ^ r := Nat.pow_pos B0
    rw [Nat.pow_succ, Nat.mul_comm (B ^ r) B, ← hB, Nat.add_mul, Nat.one_mul, hB]
    omega
  let dgt (x i : Nat) : Nat := x / B ^ i % B
  have dl : ∀ x i, dgt x i ≤ K := fun x i => by
    have := Nat.mod_lt (x / B ^ i) B0
    show x / B ^ i % B ≤ K
    omega
  let val (x j : Nat) : Int := sm (r + 1) fun i => (dgt x i : Int) * a j i
  have vl : ∀ x, ∀ j < r, (val x j).natAbs ≤ A := fun x j hj => by
    have := sm_abs' (n := r + 1) (f := fun i => (dgt x i : Int) * a j i) (t := K * 2 ^ b) fun i hi => by
      rw [Int.natAbs_mul, Int.natAbs_natCast]
      exact Nat.mul_le_mul (dl x i) (Nat.le_of_lt (ha j hj i hi))
    refine Nat.le_trans this ?_
    have e : 2 ^ (b + 4) * K = 16 * (K * 2 ^ b) := by rw [Nat.pow_add, Nat.mul_comm (2 ^ b), Nat.mul_assoc, Nat.mul_comm (2 ^ b) K]
    rw [← hA, e]
    exact Nat.mul_le_mul_right _ (by omega)
  let u (x j : Nat) : Nat := (val x j + A).toNat
  have ul : ∀ x, ∀ j < r, u x j < M := fun x j hj => by
    have := vl x j hj
    show (val x j + A).toNat < M
    omega
  obtain ⟨x, y, hxy, hy, e⟩ := pigeon hN (fun x => cd M r (u x)) fun x _ => cd_lt (ul x)
  have e := cd_eq (ul x) (ul y) e
  refine ⟨fun i => (dgt x i : Int) - dgt y i, ?_, fun i => ?_, fun j hj => ?_⟩
  · refine Classical.byContradiction fun no => ?_
    have := dg_eq (B := B) (i := x) (j := y) (r := r + 1) fun t ht => Classical.byContradiction fun z => no ⟨t, ht, by
      show ((x / B ^ t % B : Nat) : Int) - ((y / B ^ t % B : Nat) : Int) ≠ 0
      omega⟩
    rw [Nat.mod_eq_of_lt (by omega), Nat.mod_eq_of_lt hy] at this
    omega
  · have := dl x i
    have := dl y i
    dsimp only
    omega
  · have e1 : (fun i => ((dgt x i : Int) - dgt y i) * a j i) = fun i => (dgt x i : Int) * a j i - (dgt y i : Int) * a j i := funext fun i => Int.sub_mul _ _ _
    rw [e1, sm_sub]
    have e2 : u x j = u y j := e j hj
    have a1 := vl x j hj
    have a2 := vl y j hj
    have e2 : (val x j + A).toNat = (val y j + A).toNat := e2
    show val x j - val y j = 0
    omega
end Lat

namespace Lat

theorem smulL {k : Int} {f : Nat → Int} : ∀ {n : Nat}, sm n (fun i => k * f i) = k * sm n f
  | 0 => by simp [sm]
  | n + 1 => by simp only [sm, smulL (n := n), Int.mul_add]
theorem smulR {k : Int} {f : Nat → Int} {n : Nat} : sm n (fun i => f i * k) = sm n f * k := by
  rw [Int.mul_comm, ← smulL]
  exact sm_congr fun i _ => Int.mul_comm _ _
theorem sm_comm {f : Nat → Nat → Int} {m : Nat} : ∀ {n : Nat}, sm n (fun p => sm m fun i => f p i) = sm m fun i => sm n fun p => f p i
  | 0 => by simp only [sm]; exact (sm_zero fun _ _ => rfl).symm
  | n + 1 => by simp only [sm, sm_comm (n := n), sm_add]
theorem sm_head {f : Nat → Int} : ∀ {n : Nat}, sm (n + 1) f = f 0 + sm n fun i => f (i + 1)
  | 0 => by simp [sm]
  | n + 1 => by rw [sm, sm_head (n := n)]; simp only [sm]; omega
theorem Spn.sm' {S : Vf → Prop} {t : Nat → Vf} {c : Nat → Int} : ∀ {n : Nat}, (∀ i < n, Spn S (t i)) → Spn S fun j => sm n fun i => c i * t i j
  | 0, _ => Spn.zero
  | n + 1, h => ((Spn.sm' (n := n) fun i hi => h i (by omega)).plus ((h n (by omega)).mul (c n))).cast fun j => rfl
def zV : Vf := fun _ => 0
theorem Spn.rep {T : List Vf} {u : Vf} (h : Spn (· ∈ T) u) : ∃ c : Nat → Int, ∀ j, u j = sm T.length fun i => c i * T.getD i zV j := by
  induction h with
  | zero => exact ⟨fun _ => 0, fun j => (sm_zero fun i _ => by simp).symm⟩
  | @add g v k hg _ ih =>
    obtain ⟨c, hc⟩ := ih
    obtain ⟨i0, hi, e⟩ := List.getElem_of_mem hg
    refine ⟨fun i => (if i = i0 then k else 0) + c i, fun j => ?_⟩
    have e1 : (fun i => ((if i = i0 then k else 0) + c i) * T.getD i zV j) = fun i => (if i = i0 then k else 0) * T.getD i zV j + c i * T.getD i zV j := funext fun i => Int.add_mul _ _ _
    rw [e1, sm_add, sm_one hi fun i _ hne => by rw [if_neg hne, Int.zero_mul], if_pos rfl, ← hc j, List.getD_eq_getElem?_getD, List.getElem?_eq_getElem hi, e]
    rfl
theorem fS_idx {x : Vf} {c : Nat} : ∀ {L : List (Nat × Vf)}, fS L x c = sm L.length fun i => x (L.getD i (0, zV)).1 * (L.getD i (0, zV)).2 c
  | [] => rfl
  | q :: L => by
    rw [List.length_cons, sm_head]
    simp only [fS, List.getD_cons_zero, List.getD_cons_succ, fS_idx (L := L)]
theorem bnd1 (f : Nat → Nat) : ∀ n : Nat, ∃ b, ∀ i < n, f i < 2 ^ b
  | 0 => ⟨0, fun i h => absurd h (Nat.not_lt_zero _)⟩
  | n + 1 => by
    obtain ⟨b, hb⟩ := bnd1 f n
    refine ⟨b + f n, fun i hi => ?_⟩
    by_cases e : i = n
    · subst e
      exact Nat.lt_of_lt_of_le Nat.lt_two_pow_self (Nat.pow_le_pow_right (by decide) (by omega))
    · exact Nat.lt_of_lt_of_le (hb i (by omega)) (Nat.pow_le_pow_right (by decide) (by omega))
theorem bnd2 (f : Nat → Nat → Nat) (m : Nat) : ∀ n : Nat, ∃ b, ∀ j < n, ∀ i < m, f j i < 2 ^ b
  | 0 => ⟨0, fun i h => absurd h (Nat.not_lt_zero _)⟩
  | n + 1 => by
    obtain ⟨b, hb⟩ := bnd2 f m n
    obtain ⟨b2, hb2⟩ := bnd1 (f n) m
    refine ⟨b + b2, fun j hj i hi => ?_⟩
    by_cases e : j = n
    · subst e
      exact Nat.lt_of_lt_of_le (hb2 i hi) (Nat.pow_le_pow_right (by decide) (by omega))
    · exact Nat.lt_of_lt_of_le (hb j (by omega) i hi) (Nat.pow_le_pow_right (by decide) (by omega))

/-- generators that are independent, and a certificate of their span -/
structure Ind (n : Nat) (gs : List Vf) (d : Int) (L : List (Nat × Vf)) (T : List Vf) : Prop where
  C : ∃ G, Cert (Spn (· ∈ T)) n G d L
  len : T.length = L.length
  sub : ∀ t ∈ T, t ∈ gs
  rel : ∀ g ∈ gs, ∀ c, d * g c = fS L g c
  tl : T.length ≤ gs.length
theorem Ind.ex {n b : Nat} (hn : n ≤ 15) : ∀ {gs : List Vf}, (∀ g ∈ gs, ∀ c, (g c).natAbs < 2 ^ b) → (∀ g ∈ gs, ∀ c, n ≤ c → g c = 0) → ∃ d L T, Ind n gs d L T
  | [], _, _ => ⟨1, [], [], ⟨_, by
      have := Cert.nil n b
      have e : (fun x : Vf => x ∈ ([] : List Vf)) = fun _ => False := funext fun x => by simp
      rw [e]
      exact this⟩, rfl, by simp, by simp, by simp⟩
  | g :: gs, hb, ht => by
    obtain ⟨d, L, T, ⟨G, C⟩, len, sub, rel, tl⟩ := Ind.ex hn (gs := gs) (fun g hg => hb g (by simp [hg])) fun g hg => ht g (by simp [hg])
    have hL := C.len
    have eT : (fun x : Vf => x ∈ T ∨ x = g) = fun x => x ∈ g :: T := funext fun x => propext ⟨fun h => by rcases h with h | h <;> simp [h], fun h => by rcases List.mem_cons.mp h with h | h <;> simp [h]⟩
    rcases C.step (b := b) (hb g (by simp)) (ht g (by simp)) (by omega) with C' | ⟨d', L', C', e⟩
    · refine ⟨d, L, T, ⟨G, C⟩, len, fun t h => by simp [sub t h], fun x hx => ?_, by rw [List.length_cons]; omega⟩
      rcases List.mem_cons.mp hx with rfl | hx
      · exact fun c => C'.rel _ (.of (.inr rfl)) c
      · exact rel x hx
    · rw [eT] at C'
      refine ⟨d', L', g :: T, ⟨_, C'⟩, by rw [List.length_cons, len, e], fun t h => ?_, fun x hx c => ?_, by rw [List.length_cons, List.length_cons]; omega⟩
      · rcases List.mem_cons.mp h with rfl | h
        · simp
        · simp [sub t h]
      · rcases List.mem_cons.mp hx with rfl | hx
        · exact C'.rel _ (.of (by simp)) c
        · have hx' : Spn (· ∈ g :: T) fun j => d * x j := by
            have : Spn (· ∈ g :: T) (fS L x) := fS_mem fun q hq => (C.mem q hq).mono fun _ h => by simp [h]
            exact this.cast fun j => (rel x hx j).symm
          have r := C'.rel _ hx' c
          have l := fS_lin d 0 x zV L' c
          have e3 : (fun j => d * x j + 0 * zV j) = fun j => d * x j := funext fun j => by simp
          rw [e3] at l
          rw [l] at r
          have d0 := C.dpos
          have : d * (d' * x c) = d * fS L' x c := by rw [← Int.mul_left_comm]; omega
          exact Int.eq_of_mul_eq_mul_left (by omega) this
section
variable {n b : Nat} {gs T : List Vf} {d : Int} {L : List (Nat × Vf)}
/-- no relation among them -/
theorem Ind.free (I : Ind n gs d L T) (hn : n ≤ 15) {k : Nat → Int} (h0 : ∀ j, sm T.length (fun i => k i * T.getD i zV j) = 0) : ∀ i < T.length, k i = 0 := by
  obtain ⟨⟨G, C⟩, len, sub, rel, tl⟩ := I
  intro i0 hi0
  refine Classical.byContradiction fun hk => ?_
  have hLn := C.len
  have hm : ∀ p < L.length, L.getD p (0, zV) ∈ L := fun p hp => by
    rw [List.getD_eq_getElem?_getD, List.getElem?_eq_getElem hp]
    exact List.getElem_mem _
  have hc : ∀ p : Nat, ∃ c : Nat → Int, p < L.length → ∀ j, (L.getD p (0, zV)).2 j = sm T.length fun i => c i * T.getD i zV j := fun p => by
    by_cases hp : p < L.length
    · obtain ⟨c, h⟩ := (C.mem _ (hm p hp)).rep
      exact ⟨c, fun _ => h⟩
    · exact ⟨fun _ => 0, fun h => absurd h hp⟩
  obtain ⟨r, hr⟩ : ∃ r, T.length = r + 1 := ⟨T.length - 1, by omega⟩
  let cc (p : Nat) : Nat → Int := Classical.choose (hc p)
  have hcc : ∀ p < L.length, ∀ j, (L.getD p (0, zV)).2 j = sm T.length fun i => cc p i * T.getD i zV j := fun p => Classical.choose_spec (hc p)
  let c' (p i : Nat) : Int := k i0 * cc p i - cc p i0 * k i
  have hc' : ∀ p < L.length, ∀ j, k i0 * (L.getD p (0, zV)).2 j = sm T.length fun i => c' p i * T.getD i zV j := fun p hp j => by
    have e : (fun i => c' p i * T.getD i zV j) = fun i => k i0 * (cc p i * T.getD i zV j) - cc p i0 * (k i * T.getD i zV j) := funext fun i => by
      show (k i0 * cc p i - cc p i0 * k i) * T.getD i zV j = _
      rw [Int.sub_mul, Int.mul_assoc, Int.mul_assoc]
    rw [e, sm_sub, smulL, smulL, h0 j, ← hcc p hp j]
    omega
  let sk (j : Nat) : Nat := if j < i0 then j else j + 1
  obtain ⟨B, hB⟩ := bnd2 (fun j p => (c' p (sk j)).natAbs) (r + 1) r
  obtain ⟨x, ⟨p0, hp0, hx0⟩, _, hx⟩ := siegel (r := r) (b := B) (by omega) (fun j p => c' p (sk j)) hB
  have hL : L.length = r + 1 := by omega
  have all0 : ∀ i < r + 1, sm (r + 1) (fun p => x p * c' p i) = 0 := fun i hi => by
    by_cases e : i = i0
    · subst e
      refine sm_zero fun p _ => ?_
      have : c' p i = 0 := by
        show k i * cc p i - cc p i * k i = 0
        rw [Int.mul_comm]; omega
      rw [this, Int.mul_zero]
    · by_cases l : i < i0
      · have := hx i (by omega)
        have s : sk i = i := if_pos l
        simpa only [s] using this
      · have := hx (i - 1) (by omega)
        have s : sk (i - 1) = i := by
          show (if i - 1 < i0 then i - 1 else i - 1 + 1) = i
          rw [if_neg (by omega)]
          omega
        simpa only [s] using this
  have z : ∀ j, sm (r + 1) (fun p => x p * (k i0 * (L.getD p (0, zV)).2 j)) = 0 := fun j => by
    have e : sm (r + 1) (fun p => x p * (k i0 * (L.getD p (0, zV)).2 j)) = sm (r + 1) fun p => sm (r + 1) fun i => x p * c' p i * T.getD i zV j := sm_congr fun p hp => by
      rw [hc' p (by omega) j, hr, ← smulL]
      exact sm_congr fun i _ => (Int.mul_assoc _ _ _).symm
    rw [e, sm_comm]
    refine sm_zero fun i hi => ?_
    rw [smulR, all0 i hi, Int.zero_mul]
  have z0 := z (L.getD p0 (0, zV)).1
  rw [sm_one (i := p0) hp0 fun p hp hne => ?_] at z0
  · rw [C.diag _ (hm p0 (by omega))] at z0
    have d0 := C.dpos
    rcases Int.mul_eq_zero.mp z0 with h | h
    · exact hx0 h
    · rcases Int.mul_eq_zero.mp h with h | h
      · exact hk h
      · omega
  · have ne : (L.getD p (0, zV)).1 ≠ (L.getD p0 (0, zV)).1 := fun e => hne (by
      have nd := C.nd
      have g : ∀ q < L.length, (L.map (·.1))[q]? = some (L.getD q (0, zV)).1 := fun q hq => by
        rw [List.getElem?_map, List.getD_eq_getElem?_getD, List.getElem?_eq_getElem hq]
        rfl
      refine (List.getElem?_inj (by rw [List.length_map]; omega) nd).mp ?_
      rw [g p (by omega), g p0 (by omega), e])
    rw [C.off _ (hm p (by omega)) _ (hm p0 (by omega)) ne]
    simp
end
end Lat

namespace Lat

/-- small vectors of a span, one for each pivot, zero at the others; the pivots tell all -/
structure Crt (V : Vf → Prop) (n M : Nat) (L : List (Nat × Vf)) : Prop where
  mem : ∀ q ∈ L, V q.2
  lt : ∀ q ∈ L, q.1 < n
  lead : ∀ q ∈ L, ∀ c < q.1, q.2 c = 0
  pos : ∀ q ∈ L, 0 < q.2 q.1
  off : ∀ q ∈ L, ∀ q' ∈ L, q.1 ≠ q'.1 → q.2 q'.1 = 0
  nd : (L.map (·.1)).Nodup
  sz : ∀ q ∈ L, ∀ c, (q.2 c).natAbs ≤ 2 ^ M
  top : ∀ q ∈ L, ∀ c, n ≤ c → q.2 c = 0
  zero : ∀ x, V x → (∀ q ∈ L, x q.1 = 0) → ∀ c, x c = 0
theorem Crt.len {V : Vf → Prop} {n M : Nat} {L : List (Nat × Vf)} (C : Crt V n M L) : L.length ≤ n := by
  have := nodup_len C.nd fun x hx => by
    obtain ⟨q, hq, rfl⟩ := List.mem_map.mp hx
    exact C.lt q hq
  rwa [List.length_map] at this
def prd : List Int → Int
  | [] => 1
  | x :: xs => x * prd xs
theorem prd_dvd {x : Int} : ∀ {l : List Int}, x ∈ l → x ∣ prd l
  | y :: l, h => by
    rcases List.mem_cons.mp h with rfl | h
    · exact Int.dvd_mul_right _ _
    · exact Int.dvd_trans (prd_dvd h) (Int.dvd_mul_left _ _)
theorem prd_pos : ∀ {l : List Int}, (∀ x ∈ l, 0 < x) → 0 < prd l
  | [], _ => by decide
  | y :: l, h => Int.mul_pos (h y (by simp)) (prd_pos fun x hx => h x (by simp [hx]))
theorem prd_le {M : Nat} : ∀ {l : List Int}, (∀ x ∈ l, x.natAbs ≤ 2 ^ M) → (prd l).natAbs ≤ 2 ^ (M * l.length)
  | [], _ => by simp [prd]
  | y :: l, h => by
    have a := prd_le (l := l) fun x hx => h x (by simp [hx])
    have b := h y (by simp)
    rw [prd, Int.natAbs_mul, List.length_cons, Nat.mul_add, Nat.mul_one, Nat.pow_add, Nat.mul_comm]
    exact Nat.mul_le_mul a b
section
variable {S : Vf → Prop} {n M : Nat} {L : List (Nat × Vf)}
def prL (L : List (Nat × Vf)) : Int := prd (L.map fun q => q.2 q.1)
def scL (L : List (Nat × Vf)) : List (Nat × Vf) := L.map fun q => (q.1, fun c => prL L / q.2 q.1 * q.2 c)
theorem Crt.dvd (C : Crt (Spn S) n M L) {q : Nat × Vf} (hq : q ∈ L) : q.2 q.1 ∣ prL L := prd_dvd (List.mem_map.mpr ⟨q, hq, rfl⟩)
theorem Crt.dpos (C : Crt (Spn S) n M L) : 0 < prL L := prd_pos fun x hx => by
  obtain ⟨q, hq, rfl⟩ := List.mem_map.mp hx
  exact C.pos q hq
theorem Crt.mul (C : Crt (Spn S) n M L) {q : Nat × Vf} (hq : q ∈ L) : prL L / q.2 q.1 * q.2 q.1 = prL L := Int.ediv_mul_cancel (C.dvd hq)
theorem scL_keys : (scL L).map (·.1) = L.map (·.1) := by
  unfold scL
  rw [List.map_map]
  rfl
theorem Crt.rel (C : Crt (Spn S) n M L) {x : Vf} (hx : Spn S x) (c : Nat) : prL L * x c = fS (scL L) x c := by
  have hy : Spn S fun j => prL L * x j - fS (scL L) x j := (hx.mul _).sub (fS_mem fun q hq => by
    obtain ⟨p, hp, rfl⟩ := List.mem_map.mp hq
    exact (C.mem p hp).mul _)
  have := C.zero _ hy (fun q hq => by
    have hq' : (q.1, fun c => prL L / q.2 q.1 * q.2 c) ∈ scL L := List.mem_map.mpr ⟨q, hq, rfl⟩
    have e := fS_one (x := x) (c := q.1) hq' (by rw [scL_keys]; exact C.nd) fun q2 hq2 hne => by
      obtain ⟨p, hp, rfl⟩ := List.mem_map.mp hq2
      show x p.1 * (prL L / p.2 p.1 * p.2 q.1) = 0
      rw [C.off p hp q hq hne]
      simp
    rw [e]
    show prL L * x q.1 - x q.1 * (prL L / q.2 q.1 * q.2 q.1) = 0
    rw [C.mul hq, Int.mul_comm]
    omega) c
  omega
theorem Crt.cert (C : Crt (Spn S) n M L) : Cert (Spn S) n (M * (n + 1) + 1) (prL L) (scL L) := by
  have hl := C.len
  have dl : (prL L).natAbs ≤ 2 ^ (M * n) := by
    refine Nat.le_trans (prd_le (M := M) fun x hx => ?_) (Nat.pow_le_pow_right (by decide) (by rw [List.length_map]; exact Nat.mul_le_mul_left _ hl))
    obtain ⟨q, hq, rfl⟩ := List.mem_map.mp hx
    exact C.sz q hq _
  have up : (2 : Nat) ^ (M * n + M) < 2 ^ (M * (n + 1) + 1) := by
    rw [Nat.mul_add, Nat.mul_one]
    exact Nat.pow_lt_pow_right (by decide) (by omega)
  have up2 : (2 : Nat) ^ (M * n) ≤ 2 ^ (M * n + M) := Nat.pow_le_pow_right (by decide) (by omega)
  refine ⟨C.dpos, by omega, fun q hq => ?_, fun q hq => ?_, fun q hq c hc => ?_, fun q hq => ?_, fun q hq q' hq' hne => ?_, by rw [scL_keys]; exact C.nd, fun x hx c => C.rel hx c, fun q hq c => ?_, fun q hq c hc => ?_⟩
  all_goals obtain ⟨p, hp, rfl⟩ := List.mem_map.mp hq
  · exact (C.mem p hp).mul _
  · exact C.lt p hp
  · show _ * p.2 c = 0
    rw [C.lead p hp c hc, Int.mul_zero]
  · exact C.mul hp
  · obtain ⟨p', hp', rfl⟩ := List.mem_map.mp hq'
    show _ * p.2 p'.1 = 0
    rw [C.off p hp p' hp' hne, Int.mul_zero]
  · show (prL L / p.2 p.1 * p.2 c).natAbs < _
    have a : (prL L / p.2 p.1).natAbs ≤ (prL L).natAbs := Int.natAbs_ediv_le_natAbs _ _
    rw [Int.natAbs_mul]
    have b := Nat.mul_le_mul (Nat.le_trans a dl) (C.sz p hp c)
    rw [← Nat.pow_add] at b
    omega
  · show _ * p.2 c = 0
    rw [C.top p hp c hc, Int.mul_zero]
theorem fS_le {x : Vf} {c : Nat} {D : Int} {t : Nat} : ∀ {L' : List (Nat × Vf)}, (∀ q ∈ L', (x q.1 * q.2 c).natAbs ≤ D.natAbs * t) → (fS L' x c).natAbs ≤ D.natAbs * (L'.length * t)
  | [], _ => by simp [fS]
  | q :: L', h => by
    have a := fS_le (L' := L') fun q hq => h q (by simp [hq])
    have b := h q (by simp)
    have c2 := Int.natAbs_add_le (x q.1 * q.2 c) (fS L' x c)
    simp only [fS, List.length_cons, Nat.add_mul, Nat.one_mul, Nat.mul_add]
    omega
/-- what is small at the pivots is small -/
theorem Crt.row (C : Crt (Spn S) n M L) {x : Vf} (hx : Spn S x) (hp : ∀ q ∈ L, (x q.1).natAbs ≤ (q.2 q.1).natAbs) (c : Nat) : (x c).natAbs ≤ n * 2 ^ M := by
  have r := congrArg Int.natAbs (C.rel hx c)
  rw [Int.natAbs_mul] at r
  have f := fS_le (x := x) (c := c) (D := prL L) (t := 2 ^ M) (L' := scL L) fun q hq => by
    obtain ⟨p, hpp, rfl⟩ := List.mem_map.mp hq
    show (x p.1 * (prL L / p.2 p.1 * p.2 c)).natAbs ≤ _
    rw [Int.natAbs_mul, Int.natAbs_mul]
    have h1 := Nat.mul_le_mul (hp p hpp) (Nat.le_refl (prL L / p.2 p.1).natAbs)
    have h2 : (p.2 p.1).natAbs * (prL L / p.2 p.1).natAbs = (prL L).natAbs := by rw [Nat.mul_comm, ← Int.natAbs_mul, C.mul hpp]
    rw [h2] at h1
    have h3 := Nat.mul_le_mul h1 (C.sz p hpp c)
    rw [Nat.mul_assoc] at h3
    exact h3
  rw [← r] at f
  have d0 : 0 < (prL L).natAbs := by have := C.dpos; omega
  have := Nat.le_of_mul_le_mul_left f d0
  have l : (scL L).length ≤ n := by unfold scL; rw [List.length_map]; exact C.len
  exact Nat.le_trans this (Nat.mul_le_mul_right _ l)
end
section
variable {n b : Nat} {gs T : List Vf} {d : Int} {L : List (Nat × Vf)}
theorem Ind.vec (I : Ind n gs d L T) (hn : n ≤ 15) (hb : ∀ g ∈ gs, ∀ c, (g c).natAbs < 2 ^ b) {R : Nat} (hR : L.length ≤ R) {q : Nat × Vf} (hq : q ∈ L) :
    ∃ e : Vf, Spn (· ∈ T) e ∧ (∀ q' ∈ L, q'.1 ≠ q.1 → e q'.1 = 0) ∧ 0 < e q.1 ∧ (∀ c, (e c).natAbs ≤ 2 ^ ((b + 5) * R)) := by
  have I' := I
  obtain ⟨⟨G, C⟩, len, sub, rel, tl⟩ := I
  obtain ⟨i0, hi0, rfl⟩ := List.getElem_of_mem hq
  have hLn := C.len
  have hm : ∀ p < L.length, L.getD p (0, zV) ∈ L := fun p hp => by
    rw [List.getD_eq_getElem?_getD, List.getElem?_eq_getElem hp]
    exact List.getElem_mem _
  have hT : ∀ p < T.length, T.getD p zV ∈ T := fun p hp => by
    rw [List.getD_eq_getElem?_getD, List.getElem?_eq_getElem hp]
    exact List.getElem_mem _
  obtain ⟨r, hr⟩ : ∃ r, L.length = r + 1 := ⟨L.length - 1, by omega⟩
  let sk (j : Nat) : Nat := if j < i0 then j else j + 1
  obtain ⟨k, ⟨p0, hp0, hx0⟩, kb, hk⟩ := siegel (r := r) (b := b) (by omega) (fun j i => T.getD i zV (L.getD (sk j) (0, zV)).1) fun j _ i hi => hb _ (sub _ (hT i (by omega))) _
  let e : Vf := fun c => sm (r + 1) fun i => k i * T.getD i zV c
  have eT : Spn (· ∈ T) e := Spn.sm' fun i hi => .of (hT i (by omega))
  have ez : ∀ q' ∈ L, q'.1 ≠ L[i0].1 → e q'.1 = 0 := fun q' hq' hne => by
    obtain ⟨i, hi, rfl⟩ := List.getElem_of_mem hq'
    have hii : i ≠ i0 := fun z => hne (by subst z; rfl)
    by_cases l : i < i0
    · have := hk i (by omega)
      have s : sk i = i := if_pos l
      have g : L.getD i (0, zV) = L[i] := by rw [List.getD_eq_getElem?_getD, List.getElem?_eq_getElem hi]; rfl
      rw [s, g] at this
      exact this
    · have := hk (i - 1) (by omega)
      have s : sk (i - 1) = i := by
        show (if i - 1 < i0 then i - 1 else i - 1 + 1) = i
        rw [if_neg (by omega)]
        omega
      have g : L.getD i (0, zV) = L[i] := by rw [List.getD_eq_getElem?_getD, List.getElem?_eq_getElem hi]; rfl
      rw [s, g] at this
      exact this
  have enz : e L[i0].1 ≠ 0 := fun z => by
    have all : ∀ c, e c = 0 := fun c => by
      have r := C.rel e eT c
      rw [fS_zero fun q' hq' => ?_] at r
      · rcases Int.mul_eq_zero.mp r with h | h
        · have := C.dpos; omega
        · exact h
      · by_cases h : q'.1 = L[i0].1
        · rw [h, z, Int.zero_mul]
        · rw [ez q' hq' h, Int.zero_mul]
    have tl : T.length = r + 1 := by omega
    exact hx0 (I'.free hn (k := k) (fun j => by rw [tl]; exact all j) p0 (by omega))
  have eb : ∀ c, (e c).natAbs ≤ 2 ^ ((b + 5) * R) := fun c => by
    have a := sm_abs' (n := r + 1) (f := fun i => k i * T.getD i zV c) (t := 2 ^ ((b + 5) * r) * 2 ^ b) fun i hi => by
      rw [Int.natAbs_mul]
      exact Nat.mul_le_mul (kb i) (Nat.le_of_lt (hb _ (sub _ (hT i (by omega))) c))
    refine Nat.le_trans a ?_
    have h1 : r + 1 ≤ 2 ^ 5 := by omega
    have h2 := Nat.mul_le_mul_right (2 ^ ((b + 5) * r) * 2 ^ b) h1
    refine Nat.le_trans h2 ?_
    rw [← Nat.pow_add, ← Nat.pow_add]
    refine Nat.pow_le_pow_right (by decide) ?_
    have h3 : (b + 5) * (r + 1) ≤ (b + 5) * R := Nat.mul_le_mul_left _ (by omega)
    rw [Nat.mul_add, Nat.mul_one] at h3
    omega
  rcases Int.lt_or_le 0 (e L[i0].1) with h | h
  · exact ⟨e, eT, ez, h, eb⟩
  · refine ⟨fun c => -1 * e c, eT.mul (-1), fun q' hq' hne => by show -1 * e q'.1 = 0; rw [ez q' hq' hne]; rfl, by show 0 < -1 * e L[i0].1; omega, fun c => ?_⟩
    have := eb c
    show (-1 * e c).natAbs ≤ _
    omega
theorem crt_exR {R : Nat} (hR : n ≤ R ∨ gs.length ≤ R) (hn : n ≤ 15) (hb : ∀ g ∈ gs, ∀ c, (g c).natAbs < 2 ^ b) (ht : ∀ g ∈ gs, ∀ c, n ≤ c → g c = 0) : ∃ L, Crt (Spn (· ∈ gs)) n ((b + 5) * R) L := by
  obtain ⟨d, L, T, I⟩ := Ind.ex hn hb ht
  have I' := I
  obtain ⟨⟨G, C⟩, len, sub, rel, tl⟩ := I
  have hv : ∀ q : Nat × Vf, ∃ e : Vf, q ∈ L → Spn (· ∈ T) e ∧ (∀ q' ∈ L, q'.1 ≠ q.1 → e q'.1 = 0) ∧ 0 < e q.1 ∧ (∀ c, (e c).natAbs ≤ 2 ^ ((b + 5) * R)) := fun q => by
    by_cases hq : q ∈ L
    · obtain ⟨e, h⟩ := I'.vec hn hb (show L.length ≤ R by have := C.len; omega) hq
      exact ⟨e, fun _ => h⟩
    · exact ⟨zV, fun h => absurd h hq⟩
  let E (q : Nat × Vf) : Vf := Classical.choose (hv q)
  have hE : ∀ q ∈ L, Spn (· ∈ T) (E q) ∧ (∀ q' ∈ L, q'.1 ≠ q.1 → E q q'.1 = 0) ∧ 0 < E q q.1 ∧ (∀ c, (E q c).natAbs ≤ 2 ^ ((b + 5) * R)) := fun q => Classical.choose_spec (hv q)
  have relG : ∀ x, Spn (· ∈ gs) x → ∀ c, d * x c = fS L x c := fun x hx => by
    refine hx.all (P := fun x => ∀ c, d * x c = fS L x c) (fun c => by rw [fS_zero fun q _ => by simp]; simp) fun k u v hu hv c => ?_
    have e := fS_lin k 1 u v L c
    have e2 : (fun j => k * u j + 1 * v j) = fun j => k * u j + v j := by funext j; omega
    rw [e2] at e
    rw [e, ← hv c, ← rel u hu c, Int.mul_add, Int.mul_left_comm]
    omega
  have d0 := C.dpos
  have key : (L.map fun q => (q.1, E q)).map (·.1) = L.map (·.1) := by rw [List.map_map]; rfl
  refine ⟨L.map fun q => (q.1, E q), fun q hq => ?_, fun q hq => ?_, fun q hq c hc => ?_, fun q hq => ?_, fun q hq q' hq' hne => ?_, by rw [key]; exact C.nd, fun q hq c => ?_, fun q hq c hc => ?_, fun x hx hz c => ?_⟩
  rotate_right
  · have r := relG x hx c
    rw [fS_zero fun q hq => by
      have : x q.1 = 0 := hz (q.1, E q) (List.mem_map.mpr ⟨q, hq, rfl⟩)
      rw [this, Int.zero_mul]] at r
    rcases Int.mul_eq_zero.mp r with h | h
    · omega
    · exact h
  all_goals obtain ⟨p, hp, rfl⟩ := List.mem_map.mp hq
  · exact (hE p hp).1.mono sub
  · exact C.lt p hp
  · have r := C.rel _ (hE p hp).1 c
    rw [fS_zero fun q hq => by
      by_cases h : q.1 = p.1
      · have : q.2 c = 0 := C.lead q hq c (by rw [h]; exact hc)
        rw [this, Int.mul_zero]
      · rw [(hE p hp).2.1 q hq h, Int.zero_mul]] at r
    rcases Int.mul_eq_zero.mp r with h | h
    · omega
    · exact h
  · exact (hE p hp).2.2.1
  · obtain ⟨p', hp', rfl⟩ := List.mem_map.mp hq'
    exact (hE p hp).2.1 p' hp' (Ne.symm hne)
  · exact (hE p hp).2.2.2 c
  · refine ((hE p hp).1.mono sub).all (P := fun x => x c = 0) rfl fun k g v hg hv => ?_
    show k * g c + v c = 0
    rw [ht g hg c hc, hv]
    simp
theorem crt_ex (hn : n ≤ 15) (hb : ∀ g ∈ gs, ∀ c, (g c).natAbs < 2 ^ b) (ht : ∀ g ∈ gs, ∀ c, n ≤ c → g c = 0) : ∃ L, Crt (Spn (· ∈ gs)) n ((b + 5) * n) L := crt_exR (.inl (Nat.le_refl _)) hn hb ht
end
end Lat

namespace Lat
open Mir

theorem rows_list (gs : List (List Int)) : Rows gs = fun x => x ∈ gs.map vf := funext fun x => propext ⟨fun ⟨r, hr, e⟩ => List.mem_map.mpr ⟨r, hr, e.symm⟩, fun h => by
  obtain ⟨r, hr, e⟩ := List.mem_map.mp h
  exact ⟨r, hr, e.symm⟩⟩
/-- bits of a certificate of the span of vectors of n entries below 2 ^ b -/
def GB (n b : Nat) : Nat := (b + 5) * n * (n + 1) + 1
theorem rows_crt {n b : Nat} {gs : List (List Int)} (hn : n ≤ 15) (hl : ∀ g ∈ gs, g.length = n) (hb : ∀ g ∈ gs, ∀ j, (vf g j).natAbs < 2 ^ b) : ∃ L, Crt (Spn (Rows gs)) n ((b + 5) * n) L := by
  rw [rows_list]
  refine crt_ex hn (fun g hg c => ?_) fun g hg c hc => ?_
  · obtain ⟨r, hr, rfl⟩ := List.mem_map.mp hg
    exact hb r hr c
  · obtain ⟨r, hr, rfl⟩ := List.mem_map.mp hg
    exact vf_top (hl r hr) c hc
theorem rows_cert {n b : Nat} {gs : List (List Int)} (hn : n ≤ 15) (hl : ∀ g ∈ gs, g.length = n) (hb : ∀ g ∈ gs, ∀ j, (vf g j).natAbs < 2 ^ b) : ∃ d L, Cert (Spn (Rows gs)) n (GB n b) d L := by
  obtain ⟨L, C⟩ := rows_crt hn hl hb
  exact ⟨_, _, C.cert⟩
/-- the entries of the basis of a span -/
theorem IsB.small {n M : Nat} {rs : List (List Int)} {S : Vf → Prop} {L : List (Nat × Vf)} (B : IsB n rs) (C : Crt (Spn S) n M L) (h1 : ∀ x, Rows rs x → Spn S x) (h2 : ∀ x, S x → Spn (Rows rs) x) {r : List Int} (hr : r ∈ rs) (c : Nat) : (vf r c).natAbs ≤ n * 2 ^ M := by
  refine C.row (h1 _ ⟨r, hr, rfl⟩) (fun q hq => ?_) c
  have hx : Spn (Er (ofB rs)) q.2 := ((C.mem q hq).bind h2).mono fun x hx => (IsB.er B).mpr hx
  have l := ech_lead (IsB.ech B) hx (C.lead q hq)
  have p0 := C.pos q hq
  cases e : ofB rs q.1 with
  | none => have := l.2 e; omega
  | some y =>
    obtain ⟨s, hs, ps, rfl⟩ := ofB_some e
    have dv := Int.le_of_dvd p0 (l.1 _ e)
    have sp := IsB.pp B hs
    rw [ps] at sp
    by_cases h : pv r = q.1
    · have : r = s := IsB.pin B hr hs (by rw [h, ps])
      subst this
      omega
    · by_cases h' : pv r < q.1
      · have := IsB.rd B hr hs (by rw [ps]; exact h')
        rw [ps] at this
        omega
      · have : vf r q.1 = 0 := IsB.pz q.1 (by omega)
        rw [this]
        simp
theorem basis_small {n b : Nat} {gs rs : List (List Int)} (hn : n ≤ 15) (B : IsB n rs) (hl : ∀ g ∈ gs, g.length = n) (hb : ∀ g ∈ gs, ∀ j, (vf g j).natAbs < 2 ^ b) (h2 : ∀ x, Rows gs x → Spn (Rows rs) x) (h1 : ∀ x, Rows rs x → Spn (Rows gs) x)
    {r : List Int} (hr : r ∈ rs) (c : Nat) : (vf r c).natAbs < 2 ^ ((b + 5) * n + 4) := by
  obtain ⟨L, C⟩ := rows_crt hn hl hb
  have := IsB.small B C h1 h2 hr c
  rw [Nat.pow_add]
  have p := Nat.two_pow_pos ((b + 5) * n)
  have h3 := Nat.mul_le_mul_right (2 ^ ((b + 5) * n)) hn
  omega
/-- by the number of the vectors -/
theorem rows_crtR {n b R : Nat} {gs : List (List Int)} (hR : n ≤ R ∨ gs.length ≤ R) (hn : n ≤ 15) (hl : ∀ g ∈ gs, g.length = n) (hb : ∀ g ∈ gs, ∀ j, (vf g j).natAbs < 2 ^ b) : ∃ L, Crt (Spn (Rows gs)) n ((b + 5) * R) L := by
  rw [rows_list]
  refine crt_exR (by rw [List.length_map]; exact hR) hn (fun g hg c => ?_) fun g hg c hc => ?_
  · obtain ⟨r, hr, rfl⟩ := List.mem_map.mp hg
    exact hb r hr c
  · obtain ⟨r, hr, rfl⟩ := List.mem_map.mp hg
    exact vf_top (hl r hr) c hc
theorem basis_smallR {n b R : Nat} {gs rs : List (List Int)} (hR : n ≤ R ∨ gs.length ≤ R) (hn : n ≤ 15) (B : IsB n rs) (hl : ∀ g ∈ gs, g.length = n) (hb : ∀ g ∈ gs, ∀ j, (vf g j).natAbs < 2 ^ b) (h2 : ∀ x, Rows gs x → Spn (Rows rs) x) (h1 : ∀ x, Rows rs x → Spn (Rows gs) x)
    {r : List Int} (hr : r ∈ rs) (c : Nat) : (vf r c).natAbs < 2 ^ ((b + 5) * R + 4) := by
  obtain ⟨L, C⟩ := rows_crtR hR hn hl hb
  have := IsB.small B C h1 h2 hr c
  rw [Nat.pow_add]
  have p := Nat.two_pow_pos ((b + 5) * R)
  have h3 := Nat.mul_le_mul_right (2 ^ ((b + 5) * R)) hn
  omega
end Lat

namespace Lat
open PySem PySem.Spec PyProof.Rows L2 Mir

local macro_rules | `(tactic| walk_at "wp") => `(tactic| repeat (first
  | with_reducible refine ws_seq ?_
  | with_reducible refine ws_set ?_
  | with_reducible refine ws_ret ?_
  | with_reducible refine ws_if ?_
  | with_reducible refine ws_setI ?_
  | with_reducible refine ws_expr ?_
  | with_reducible refine ws_nil ?_
  | with_reducible refine wp_var (by with_unfolding_all rfl) ?_
  | with_reducible refine wp_c ?_
  | with_reducible refine wp_op ?_
  | with_reducible refine wp_un ?_
  | with_reducible refine wp_and ?_
  | with_reducible refine wp_or ?_
  | with_reducible refine wp_not ?_
  | with_reducible refine wp_tst ?_
  | with_reducible refine wp_tand ?_
  | with_reducible refine wp_tor ?_
  | with_reducible refine wp_tnot ?_
  | with_reducible refine wp_chain ?_
  | with_reducible refine wp_ife ?_
  | with_reducible refine wa_nil ?_
  | with_reducible refine wa_cons ?_
  | with_reducible refine wp_lst ?_
  | with_reducible refine wp_tup ?_
  | with_reducible refine wp_new ?_
  | with_reducible refine wp_fn ?_
  | with_reducible refine wp_fn1 ?_
  | with_reducible refine wp_call ?_
  | with_reducible refine wp_lm ?_
  | with_reducible refine wp_slice ?_
  | with_reducible refine wo_none ?_
  | with_reducible refine wo_some ?_
  | with_reducible refine wi_seq ?_
  | with_reducible refine wi_enum ?_
  | with_reducible refine wi_rng1 ?_
  | with_reducible refine wi_rng2 ?_
  | with_reducible refine wi_zip ?_
  | with_reducible refine wp_addI ?_
  | with_reducible refine wp_subI ?_
  | with_reducible refine wp_negI ?_
  | with_reducible refine wp_gtI ?_
  | with_reducible refine wp_ltI ?_
  | with_reducible refine wp_geI ?_
  | with_reducible refine wp_leI ?_
  | with_reducible refine wp_eqF ?_
  | with_reducible refine wp_neF ?_
  | with_reducible refine ex_bl ?_
  | (with_reducible refine if_tt ?_)
  | (with_reducible refine if_ff ?_)
  | (with_reducible refine And.intro (show List.length (List.cons _ _) ≤ 1000000 by simp only [List.length_cons, List.length_nil]; decide) ?_)
  | (with_reducible refine And.intro (show List.length List.nil ≤ 1000000 by decide) ?_)
  | (with_reducible refine And.intro (show List.length (List.cons _ _) = _ from rfl) ?_)))



/-- d is a sequence of sequences of ints: these rows -/
def RowsAt (st : Sto) (d : D) (gs : List (List Int)) : Prop := ∃ items, seqOf st d = some items ∧ items.length = gs.length ∧ ∀ i x, items[i]? = some x → seqOf st x = some ((gs.getD i []).map .int)
theorem seqOf_kp {st st' : Sto} (k : Kp [] st st') {d : D} {xs : List D} (h : seqOf st d = some xs) : seqOf st' d = some xs := by
  cases d with
  | obj n =>
    have := k.at' _ _ (by simp) (obj_lst (show lstOf st (.obj n) = some xs from h))
    simp only [seqOf, lstOf, this]
  | _ => exact h
theorem RowsAt.mat (st : Sto) (gs : List (List Int)) : RowsAt st (matD gs) gs := ⟨gs.map rowD, rfl, by rw [List.length_map], fun i x h => by
  rw [List.getElem?_map] at h
  cases e : gs[i]? with
  | none => rw [e] at h; cases h
  | some r =>
    rw [e] at h
    cases h
    rw [List.getD_eq_getElem?_getD, e]
    rfl⟩
theorem rows_succ {gs : List (List Int)} {i : Nat} (h : i < gs.length) : Rows (gs.take (i + 1)) = fun x => Rows (gs.take i) x ∨ x = vf (gs.getD i []) := by
  funext x
  have e : gs.take (i + 1) = gs.take i ++ [gs.getD i []] := by
    rw [List.take_add_one, List.getElem?_eq_getElem h, List.getD_eq_getElem?_getD, List.getElem?_eq_getElem h]
    rfl
  refine propext ⟨fun ⟨r, hr, hx⟩ => ?_, fun hx => ?_⟩
  · rw [e] at hr
    rcases List.mem_append.mp hr with hr | hr
    · exact .inl ⟨r, hr, hx⟩
    · exact .inr (by rw [hx, List.mem_singleton.mp hr])
  · rw [e]
    rcases hx with ⟨r, hr, hx⟩ | hx
    · exact ⟨r, List.mem_append_left _ hr, hx⟩
    · exact ⟨_, by simp, hx⟩
/-- how large the entries of an echelon can be: n entries below 2 ^ b -/
def Rb (n b : Nat) : Nat := n * GB n b + GB n b + b + 6 + GB n b
theorem GB_ge (b : Nat) {n : Nat} (h : 1 ≤ n) : b ≤ GB n b := by
  unfold GB
  have h1 : (b + 5) * 1 * 1 ≤ (b + 5) * n * (n + 1) := Nat.mul_le_mul (Nat.mul_le_mul_left _ h) (by omega)
  omega
theorem hermite_ok {ds : D} {gs : List (List Int)} {n b : Nat} {sz : D} {st : Sto} {Q : D → Sto → Prop} (hd : RowsAt st ds gs) (h1 : 1 ≤ n) (hn : n ≤ 15) (hgl : ∀ g ∈ gs, g.length = n) (hgb : ∀ g ∈ gs, ∀ j, (vf g j).natAbs < 2 ^ b)
    (hB : (n + 4) * (Rb n b + 2) < 134217000)
    (fin : ∀ rs st', IsB n rs → (∀ x, Rows gs x → Spn (Rows rs) x) → (∀ x, Rows rs x → Spn (Rows gs) x) → Kp [] st st' → Q (matD rs) st') : Wp (hm_hermite [ds, sz]) st Q := by
  obtain ⟨items, hi1, hi2, hi3⟩ := hd
  have hB' : n * (Rb n b + 1) + 2 * Rb n b + 8 < 134217000 := by
    have e1 : (n + 4) * (Rb n b + 2) = n * (Rb n b + 1) + n + 4 * Rb n b + 8 := by rw [Nat.add_mul, show Rb n b + 2 = (Rb n b + 1) + 1 by omega, Nat.mul_add n]; omega
    omega
  refine ws_run ?_
  show Ws hb_hermite [some ds, some sz, none, none, none] st _ _ _ _
  unfold hb_hermite
  refine ws_seq (ws_set ⟨.obj st.length, st ++ [.dic []], rfl, ?_⟩)
  have k0 : Kp [] st (st ++ [.dic []]) := Kp.app _ _ _
  have d0 : DicE st.length n (Rb n b) [] (st ++ [.dic []]) := ⟨app_get, by simp, by simp, by simp⟩
  have hal : st.length ≤ st.length := Nat.le_refl _
  generalize st ++ [.dic []] = s0 at k0 d0 ⊢
  generalize hae : st.length = a at d0 ⊢
  have kput : ∀ {s s' : Sto}, Kp [] st s → Kp [a] s s' → Kp [] st s' := fun {s s'} k k' => ⟨Nat.le_trans k.len k'.len, fun i o _ e => k'.at' i o (by
    have := (List.getElem?_eq_some_iff.mp e).1
    simp
    omega) (k.at' i o (by simp) e)⟩
  have O0 : Out n (Rb n b) (Rows (gs.take 0)) (eF []) := by
    have nE : ∀ (c : Nat) (x : Vf), eF [] c = some x → False := fun c x h => by
      have h' : (none : Option Vf) = some x := h
      cases h'
    exact ⟨⟨fun c r h => (nE c r h).elim⟩, fun x ⟨r, hr, _⟩ => by simp at hr, fun x ⟨c, h⟩ => (nE c x h).elim, fun c r h => (nE c r h).elim, fun c r h => (nE c r h).elim⟩
  have hC : ∀ i, ∃ d L, Cert (Spn (Rows (gs.take i))) n (GB n b) d L := fun i => rows_cert hn (fun g hg => hgl g (List.mem_of_mem_take hg)) fun g hg => hgb g (List.mem_of_mem_take hg)
  refine ws_seq (ws_for (items, fun st' => seqOf st' ds = some items)
    (fun i env s => ∃ (ps : List (Nat × List Int)) (w3 w4 : Option D), env = [some ds, some sz, some (.obj a), w3, w4] ∧ DicE a n (Rb n b) ps s ∧ Kp [] st s ∧ Out n (Rb n b) (Rows (gs.take i)) (eF ps)) ?_ ?_ ?_ ?_)
  · walk_at "wp"
    exact ⟨items, seqOf_kp k0 hi1, rfl, [], _, _, rfl, d0, k0, O0⟩
  · rintro i env s ⟨ps, w3, w4, rfl, _, k, _⟩
    exact seqOf_kp k hi1
  · rintro i d' env s hd ⟨ps, w3, w4, rfl, hs, k, O⟩
    have hil := (List.getElem?_eq_some_iff.mp hd).1
    have hgi : gs.getD i [] ∈ gs := getD_mem (by rw [← hi2]; exact hil)
    refine ⟨_, rfl, ?_⟩
    walk_at "wp"
    refine wp_tuple (seqOf_kp k (hi3 i d' hd)) ?_
    walk_at "wp"
    obtain ⟨d, L, C⟩ := hC i
    refine add_ok (g := gs.getD i []) (b := b) (G := GB n b) hs O C hn (GB_ge b h1) (hgl _ hgi) (hgb _ hgi) rfl hB fun ps' st' hs' O' k' => ?_
    rw [← rows_succ (by rw [← hi2]; exact hil)] at O'
    exact ⟨ps', _, _, rfl, hs', kput k k', O'⟩
  · rintro env s ⟨ps, w3, w4, rfl, hs, k, O⟩
    rw [show (items, fun st' : Sto => seqOf st' ds = some items).1 = items from rfl, hi2, List.take_length] at O
    obtain ⟨ks, hk, kp, km, kl⟩ := keys_sorted hs.nd
    have kn : ks.length ≤ n := by rw [kl]; exact hs.count
    have rowk : ∀ c r, eP ps c = some r → (∀ j < c, vf r j = 0) ∧ 0 < vf r c := fun c r e => (O.ech.ok c (vf r) (by unfold eF; rw [e]; rfl)).2
    have rowb : ∀ c r, eP ps c = some r → ∀ j, (vf r j).natAbs < 2 ^ Rb n b := fun c r e => O.eb c (vf r) (by unfold eF; rw [e]; rfl)
    walk_at "wp"
    refine (wp_lc (src := (ks.map (fun c : Nat => D.int c), fun st' => seqOf st' (.lst (ks.map fun c : Nat => D.int c)) = some (ks.map fun c : Nat => D.int c))) (st1 := s) ?_
      (fun i acc s' => ∃ us : List (List Int), acc = us.map rowD ∧ us.length = i ∧ Kp [] s s' ∧ s'[s.length]? = some (.lst acc) ∧ (∀ u ∈ us, u.length = n) ∧ ∀ i' < i, ∃ r, eF ps (ks.getD i' 0) = some r ∧ Low (eF ps) (ks.getD i' 0) r (vf (us.getD i' []))) ?_ (fun _ _ _ _ => rfl) ?_).mono ?_
    · obtain ⟨src, s1, e1, e2, e3⟩ : Wp (itSeq (eFn (fn1 sortedU) (aCons (eVar 2) aNil)) [some ds, some sz, some (.obj a), w3, w4]) s fun src s1 => src = (ks.map (fun c : Nat => D.int c), fun st' => seqOf st' (.lst (ks.map fun c : Nat => D.int c)) = some (ks.map fun c : Nat => D.int c)) ∧ s1 = s := by
        walk_at "wp"
        exact wp_sortedDic hs (by omega) hk ⟨_, rfl, rfl, rfl⟩
      rw [e2, e3] at e1
      exact e1
    · exact ⟨[], rfl, rfl, Kp.app _ _ _, app_get, by simp, fun i hi => absurd hi (Nat.not_lt_zero _)⟩
    · rintro i d' acc s1 hd ⟨us, rfl, hul, k1, g1, hun, low⟩
      rw [List.getElem?_map] at hd
      cases ek : ks[i]? with
      | none => rw [ek] at hd; cases hd
      | some c =>
      rw [ek] at hd
      cases hd
      have hi := (List.getElem?_eq_some_iff.mp ek).1
      have hci : ks.getD i 0 = c := by rw [List.getD_eq_getElem?_getD, ek]; rfl
      have hne : eP ps c ≠ none := (km c).mp (List.mem_of_getElem? ek)
      cases er : eP ps c with
      | none => exact absurd er hne
      | some r =>
      have hr : r.length = n := hs.len _ (eP_in er)
      have hs1 := hs.kp k1
      refine ⟨_, rfl, Wp.pure ?_⟩
      rw [if_pos rfl]
      walk_at "wp"
      refine wp_dget hs1 er ?_
      walk_at "wp"
      refine lowered_ok (t := Rb n b) (R := Rb n b) hs1 (by omega) hr (fun p w _ e => rowk p w e) (fun p w _ e => rowb p w e) (rowb c r er) (by omega) fun u s2 hu lu k2 => ?_
      have ex : us.map rowD ++ [rowD u] = (us ++ [u]).map rowD := by simp
      refine ⟨k2.at' _ _ (by simp) g1, by rw [List.length_map]; omega, us ++ [u], by simp, by simp [hul], (k1.trans k2).set (.inl (Nat.le_refl _)) _, set_get (k2.at' _ _ (by simp) g1), fun w hw => ?_, fun i' hi' => ?_⟩
      · rcases List.mem_append.mp hw with hw | hw
        · exact hun w hw
        · rw [List.mem_singleton.mp hw]; exact hu
      · by_cases e : i' < i
        · rw [getD_app_l (by omega)]
          exact low i' e
        · have e2 : i' = us.length := by omega
          subst e2
          rw [getD_app_e, hul, hci]
          exact ⟨vf r, by unfold eF; rw [er]; rfl, lu⟩
    · rintro d' s1 ⟨rfl, acc, us, rfl, hul, k1, g1, hun, low⟩
      rw [show (ks.map (fun c : Nat => D.int c), fun st' : Sto => seqOf st' (.lst (ks.map fun c : Nat => D.int c)) = some (ks.map fun c : Nat => D.int c)).1 = ks.map (fun c : Nat => D.int c) from rfl, List.length_map] at hul low
      walk_at "wp"
      refine wp_tuple (xs := us.map rowD) (by simp only [seqOf, lstOf, g1]) ?_
      obtain ⟨B, t1, t2⟩ := final_isB O.ech kp (fun c => (km c).trans (not_congr eF_none).symm) hul hun low
      exact fin us s1 B (fun x hx => (O.to x hx).bind t1) (fun x hx => (t2 x hx).bind O.fro) (k.trans k1)
end Lat

namespace Lat

/-! ### the value of a form, certificates of kernels -/
def dt (n : Nat) (f x : Vf) : Int := sm n fun i => f i * x i
theorem sm_mul {k : Int} {f : Nat → Int} : ∀ {n : Nat}, sm n (fun i => k * f i) = k * sm n f
  | 0 => by simp [sm]
  | n + 1 => by simp only [sm, sm_mul (n := n), Int.mul_add]
theorem dt_lin (n : Nat) (f u v : Vf) (a b : Int) : dt n f (fun i => a * u i + b * v i) = a * dt n f u + b * dt n f v := by
  unfold dt
  rw [← sm_mul, ← sm_mul, ← sm_add]
  refine sm_congr fun i _ => ?_
  rw [Int.mul_add, Int.mul_left_comm, Int.mul_left_comm (f i) b]
theorem dt_zero (n : Nat) (f : Vf) : dt n f (fun _ => 0) = 0 := sm_zero fun i _ => by simp
theorem dt_cast {n : Nat} {f u v : Vf} (h : ∀ i, u i = v i) : dt n f u = dt n f v := by rw [show u = v from funext h]
theorem dt_mul (n : Nat) (f u : Vf) (a : Int) : dt n f (fun i => a * u i) = a * dt n f u := by
  have := dt_lin n f u u a 0
  rw [Int.zero_mul, Int.add_zero] at this
  rw [← this]
  exact dt_cast fun i => by omega
theorem dt_sub (n : Nat) (f u v : Vf) : dt n f (fun i => u i - v i) = dt n f u - dt n f v := by
  have := dt_lin n f u v 1 (-1)
  rw [show dt n f (fun i => u i - v i) = dt n f (fun i => 1 * u i + -1 * v i) from dt_cast fun i => by omega, this]
  omega
theorem sm_abs {f : Nat → Int} {t : Nat} : ∀ {n : Nat}, (∀ i < n, (f i).natAbs ≤ 2 ^ t) → (sm n f).natAbs ≤ n * 2 ^ t
  | 0, _ => by simp [sm]
  | n + 1, h => by
    have h1 := sm_abs (n := n) fun i hi => h i (by omega)
    have h2 := h n (by omega)
    have := Int.natAbs_add_le (sm n f) (f n)
    simp only [sm, Nat.add_mul, Nat.one_mul]
    omega
theorem dt_abs {n s t : Nat} {f x : Vf} (hn : n ≤ 15) (hf : ∀ i, (f i).natAbs < 2 ^ s) (hx : ∀ i, (x i).natAbs < 2 ^ t) : (dt n f x).natAbs < 2 ^ (s + t + 4) := by
  have h1 := sm_abs (n := n) (f := fun i => f i * x i) (t := s + t) fun i _ => big (Nat.le_of_lt (hf i)) (Nat.le_of_lt (hx i))
  have h2 : n * 2 ^ (s + t) ≤ 15 * 2 ^ (s + t) := Nat.mul_le_mul_right _ hn
  have h3 : (2 : Nat) ^ (s + t + 4) = 16 * 2 ^ (s + t) := by rw [Nat.pow_add, Nat.mul_comm]
  have := Nat.two_pow_pos (s + t)
  unfold dt
  omega
/-- the value over a certificate -/
theorem dt_fS (n : Nat) (f x : Vf) : ∀ L : List (Nat × Vf), dt n f (fS L x) = (L.map fun q => x q.1 * dt n f q.2).sum
  | [] => dt_zero n f
  | q :: L => by
    have := dt_lin n f q.2 (fS L x) (x q.1) 1
    rw [List.map_cons, List.sum_cons, ← dt_fS n f x L]
    rw [Int.one_mul] at this
    rw [← this]
    exact dt_cast fun i => by simp only [fS]; omega
/-- the largest pivot with a property -/
theorem last_q (P : Nat × Vf → Prop) : ∀ L : List (Nat × Vf), (∃ q, q ∈ L ∧ P q) → ∃ q, q ∈ L ∧ P q ∧ ∀ q' ∈ L, P q' → q'.1 ≤ q.1
  | [], ⟨q, hq, _⟩ => by simp at hq
  | q0 :: L, h => by
    by_cases hL : ∃ q, q ∈ L ∧ P q
    · obtain ⟨q, hq, hp, hm⟩ := last_q P L hL
      by_cases h0 : P q0 ∧ q.1 ≤ q0.1
      · exact ⟨q0, by simp, h0.1, fun q' hq' hp' => by
          rcases List.mem_cons.mp hq' with rfl | hq'
          · exact Nat.le_refl _
          · have := hm q' hq' hp'; omega⟩
      · exact ⟨q, by simp [hq], hp, fun q' hq' hp' => by
          rcases List.mem_cons.mp hq' with rfl | hq'
          · exact Classical.byContradiction fun z => h0 ⟨hp', by omega⟩
          · exact hm q' hq' hp'⟩
    · obtain ⟨q, hq, hp⟩ := h
      have : q = q0 := by
        rcases List.mem_cons.mp hq with e | m
        · exact e
        · exact absurd ⟨q, m, hp⟩ hL
      subst this
      exact ⟨q, by simp, hp, fun q' hq' hp' => by
        rcases List.mem_cons.mp hq' with rfl | hq'
        · exact Nat.le_refl _
        · exact absurd ⟨q', hq', hp'⟩ hL⟩
theorem sum_one {q0 : Nat × Vf} {g : Nat × Vf → Int} : ∀ {L : List (Nat × Vf)}, q0 ∈ L → (L.map (·.1)).Nodup → (L.map g).sum = g q0 + ((L.filter fun q => q.1 != q0.1).map g).sum
  | q :: L, hq, hn => by
    rw [List.map_cons, List.nodup_cons] at hn
    rcases List.mem_cons.mp hq with rfl | hq
    · have : L.filter (fun q => q.1 != q0.1) = L := List.filter_eq_self.mpr fun q hq' => by
        simp only [bne_iff_ne, ne_eq]
        exact fun e => hn.1 (e ▸ List.mem_map.mpr ⟨q, hq', rfl⟩)
      rw [List.filter_cons, if_neg (by simp), this, List.map_cons, List.sum_cons]
    · have hne : q.1 ≠ q0.1 := fun e => hn.1 (e ▸ List.mem_map.mpr ⟨q0, hq, rfl⟩)
      rw [List.filter_cons, if_pos (by simpa using hne), List.map_cons, List.sum_cons, List.map_cons, List.sum_cons, sum_one hq hn.2]
      omega

theorem fS_filter {q0 : Nat × Vf} {x : Vf} {c : Nat} {L : List (Nat × Vf)} (h : q0 ∈ L) (hn : (L.map (·.1)).Nodup) : fS L x c = x q0.1 * q0.2 c + fS (L.filter fun q => q.1 != q0.1) x c := by
  have e : ∀ M : List (Nat × Vf), fS M x c = (M.map fun q => x q.1 * q.2 c).sum := fun M => by
    induction M with
    | nil => rfl
    | cons q M ih => simp only [fS, List.map_cons, List.sum_cons, ih]
  rw [e, e, sum_one h hn]
theorem fS_map2 (a : Int) (k : Nat × Vf → Int) (w : Vf) (x : Vf) (c : Nat) : ∀ L : List (Nat × Vf), fS (L.map fun q => (q.1, fun c => a * q.2 c - k q * w c)) x c = a * fS L x c - (L.map fun q => x q.1 * k q).sum * w c
  | [] => by simp [fS]
  | q :: L => by
    simp only [List.map_cons, List.sum_cons, fS, fS_map2 a k w x c L, Int.mul_sub, Int.mul_add, Int.add_mul, Int.mul_assoc, Int.mul_left_comm]
    omega
theorem Cert.ker {V : Vf → Prop} {n G s : Nat} {d : Int} {L : List (Nat × Vf)} (C : Cert V n G d L) (hV : ∀ (a b : Int) (u v : Vf), V u → V v → V fun i => a * u i + b * v i) {f : Vf} (hf : ∀ i, (f i).natAbs < 2 ^ s) (hn : n ≤ 15) :
    ∃ (G' : Nat) (d' : Int) (L' : List (Nat × Vf)), Cert (fun x => V x ∧ dt n f x = 0) n G' d' L' ∧ ((G' = G ∧ L'.length = L.length) ∨ (G' = 2 * G + s + 6 ∧ L'.length + 1 = L.length)) ∧
      ∀ q' ∈ L', ∃ q1 ∈ L, ∃ q2 ∈ L, ∃ a b : Int, ∀ j, q'.2 j = a * q1.2 j + b * q2.2 j := by
  have val : ∀ x, V x → d * dt n f x = (L.map fun q => x q.1 * dt n f q.2).sum := fun x hx => by
    rw [← dt_fS, ← dt_mul]
    exact dt_cast fun i => C.rel x hx i
  by_cases h : ∃ q, q ∈ L ∧ dt n f q.2 ≠ 0
  · obtain ⟨q0, hq0, hp0, hmax⟩ := last_q (fun q => dt n f q.2 ≠ 0) L h
    obtain ⟨t, ht, hpos⟩ : ∃ t : Int, (t = 1 ∨ t = -1) ∧ 0 < t * dt n f q0.2 := by
      rcases Int.lt_or_le 0 (dt n f q0.2) with h | h
      · exact ⟨1, .inl rfl, by omega⟩
      · exact ⟨-1, .inr rfl, by omega⟩
    have tt : t * t = 1 := by rcases ht with rfl | rfl <;> rfl
    generalize hc : t * dt n f q0.2 = c at hpos
    have hcv : dt n f q0.2 = t * c := by rw [← hc, ← Int.mul_assoc, tt, Int.one_mul]
    have fb : ∀ q ∈ L, (dt n f q.2).natAbs < 2 ^ (s + G + 4) := fun q hq => dt_abs hn hf (C.sz q hq)
    have cb : c.natAbs < 2 ^ (s + G + 4) := by
      have := fb q0 hq0
      rw [← hc]
      rcases ht with rfl | rfl <;> omega
    have mb : ∀ {x y : Int} {u v : Nat}, x.natAbs < 2 ^ u → y.natAbs < 2 ^ v → (x * y).natAbs < 2 ^ (u + v) := fun {x y u v} h1 h2 => by
      rw [Int.natAbs_mul, Nat.pow_add]
      exact Nat.mul_lt_mul'' h1 h2
    generalize hM : L.filter (fun q => q.1 != q0.1) = M
    have hsub : ∀ q ∈ M, q ∈ L ∧ q.1 ≠ q0.1 := fun q hq => by
      rw [← hM, List.mem_filter] at hq
      exact ⟨hq.1, by simpa using hq.2⟩
    have hlen : M.length + 1 = L.length := by
      have : ∀ L : List (Nat × Vf), q0 ∈ L → (L.map (·.1)).Nodup → (L.filter (fun q => q.1 != q0.1)).length + 1 = L.length := by
        intro L
        induction L with
        | nil => intro h; simp at h
        | cons q L ih =>
          intro hq hn
          rw [List.map_cons, List.nodup_cons] at hn
          rcases List.mem_cons.mp hq with rfl | hq
          · have : L.filter (fun q => q.1 != q0.1) = L := List.filter_eq_self.mpr fun q hq' => by
              simp only [bne_iff_ne, ne_eq]
              exact fun e => hn.1 (e ▸ List.mem_map.mpr ⟨q, hq', rfl⟩)
            rw [List.filter_cons, if_neg (by simp), this]
            rfl
          · have hne : q.1 ≠ q0.1 := fun e => hn.1 (e ▸ List.mem_map.mpr ⟨q0, hq, rfl⟩)
            rw [List.filter_cons, if_pos (by simpa using hne), List.length_cons, List.length_cons]
            have := ih hq hn.2
            omega
      rw [← hM]
      exact this L hq0 C.nd
    refine ⟨2 * G + s + 6, c * d, M.map fun q => (q.1, fun j => c * q.2 j - (t * dt n f q.2) * q0.2 j), ⟨Int.mul_pos hpos C.dpos, ?_, ?_, ?_, ?_, ?_, ?_, ?_, ?_, ?_, ?_⟩, .inr ⟨rfl, by rw [List.length_map]; exact hlen⟩, ?_⟩
    · exact Nat.lt_of_lt_of_le (mb cb C.dsz) (Nat.pow_le_pow_right (by decide) (by omega))
    · intro q' hq'
      obtain ⟨q, hq, rfl⟩ := List.mem_map.mp hq'
      have hqL := hsub q hq
      have e1 : (fun j => c * q.2 j - (t * dt n f q.2) * q0.2 j) = fun j => c * q.2 j + (-(t * dt n f q.2)) * q0.2 j := by
        funext j
        rw [Int.neg_mul]
        omega
      refine ⟨?_, ?_⟩
      · show V fun j => c * q.2 j - (t * dt n f q.2) * q0.2 j
        rw [e1]
        exact hV _ _ _ _ (C.mem q hqL.1) (C.mem q0 hq0)
      · show dt n f (fun j => c * q.2 j - (t * dt n f q.2) * q0.2 j) = 0
        rw [e1, dt_lin, hcv, Int.neg_mul, Int.mul_assoc, Int.mul_left_comm (dt n f q.2) t c, ← Int.mul_assoc t t, tt, Int.mul_comm c]
        omega
    · intro q' hq'
      obtain ⟨q, hq, rfl⟩ := List.mem_map.mp hq'
      exact C.lt q (hsub q hq).1
    · intro q' hq' j hj
      obtain ⟨q, hq, rfl⟩ := List.mem_map.mp hq'
      show c * q.2 j - (t * dt n f q.2) * q0.2 j = 0
      replace hj : j < q.1 := hj
      rw [C.lead q (hsub q hq).1 j hj]
      by_cases hz : dt n f q.2 = 0
      · rw [hz]; simp
      · have := hmax q (hsub q hq).1 hz
        rw [C.lead q0 hq0 j (by omega)]
        simp
    · intro q' hq'
      obtain ⟨q, hq, rfl⟩ := List.mem_map.mp hq'
      show c * q.2 q.1 - (t * dt n f q.2) * q0.2 q.1 = c * d
      rw [C.diag q (hsub q hq).1, C.off q0 hq0 q (hsub q hq).1 (Ne.symm (hsub q hq).2)]
      omega
    · intro q1 hq1 q2 hq2 hne
      obtain ⟨q, hq, rfl⟩ := List.mem_map.mp hq1
      obtain ⟨q', hq', rfl⟩ := List.mem_map.mp hq2
      show c * q.2 q'.1 - (t * dt n f q.2) * q0.2 q'.1 = 0
      rw [C.off q (hsub q hq).1 q' (hsub q' hq').1 hne, C.off q0 hq0 q' (hsub q' hq').1 (Ne.symm (hsub q' hq').2)]
      omega
    · rw [List.map_map]
      rw [← hM]
      exact C.nd.sublist (List.Sublist.map _ List.filter_sublist)
    · rintro x ⟨hx, hx0⟩ j
      have v := val x hx
      rw [hx0, Int.mul_zero, sum_one hq0 C.nd, hM, hcv] at v
      have r := C.rel x hx j
      rw [fS_filter hq0 C.nd, hM] at r
      have e2 : (M.map fun q => x q.1 * (t * dt n f q.2)).sum = t * (M.map fun q => x q.1 * dt n f q.2).sum := by
        clear v r hlen hsub hM
        induction M with
        | nil => simp
        | cons q M ih => rw [List.map_cons, List.sum_cons, List.map_cons, List.sum_cons, ih, Int.mul_add, Int.mul_left_comm]
      rw [fS_map2 c (fun q => t * dt n f q.2) q0.2 x j M, e2]
      have e3 : t * (M.map fun q => x q.1 * dt n f q.2).sum = -(c * x q0.1) := by
        have : t * (x q0.1 * (t * c)) = c * x q0.1 := by rw [Int.mul_left_comm t, ← Int.mul_assoc t t, tt, Int.one_mul, Int.mul_comm]
        have v' : t * (x q0.1 * (t * c) + (M.map fun q => x q.1 * dt n f q.2).sum) = 0 := by rw [← v, Int.mul_zero]
        rw [Int.mul_add] at v'
        omega
      rw [e3, Int.neg_mul, Int.mul_assoc c d, r, Int.mul_add, Int.mul_assoc c (x q0.1)]
      omega
    · intro q' hq' j
      obtain ⟨q, hq, rfl⟩ := List.mem_map.mp hq'
      show (c * q.2 j - (t * dt n f q.2) * q0.2 j).natAbs < _
      have b1 := mb cb (C.sz q (hsub q hq).1 j)
      have tb : (t * dt n f q.2).natAbs < 2 ^ (s + G + 4) := by
        have := fb q (hsub q hq).1
        rcases ht with rfl | rfl <;> omega
      have b2 := mb tb (C.sz q0 hq0 j)
      have b3 := Int.natAbs_sub_le (c * q.2 j) ((t * dt n f q.2) * q0.2 j)
      have b4 : (2 : Nat) ^ (2 * G + s + 6) = 4 * 2 ^ (s + G + 4 + G) := by rw [show 2 * G + s + 6 = (s + G + 4 + G) + 2 by omega, Nat.pow_add, Nat.mul_comm]
      omega
    · intro q' hq' j hj
      obtain ⟨q, hq, rfl⟩ := List.mem_map.mp hq'
      show c * q.2 j - (t * dt n f q.2) * q0.2 j = 0
      rw [C.top q (hsub q hq).1 j hj, C.top q0 hq0 j hj]
      omega
    · intro q' hq'
      obtain ⟨q, hq, rfl⟩ := List.mem_map.mp hq'
      exact ⟨q, (hsub q hq).1, q0, hq0, c, -(t * dt n f q.2), fun j => by
        show c * q.2 j - (t * dt n f q.2) * q0.2 j = _
        rw [Int.neg_mul]
        omega⟩
  · have h0 : ∀ q ∈ L, dt n f q.2 = 0 := fun q hq => Classical.not_not.mp fun z => h ⟨q, hq, z⟩
    refine ⟨G, d, L, ⟨C.dpos, C.dsz, fun q hq => ⟨C.mem q hq, h0 q hq⟩, C.lt, C.lead, C.diag, C.off, C.nd, fun x hx => C.rel x hx.1, C.sz, C.top⟩, .inl ⟨rfl, rfl⟩, fun q hq => ⟨q, hq, q, hq, 1, 0, fun j => by omega⟩⟩
end Lat

namespace Lat
open Mir

/-! ### lattices by conditions -/
/-- zero behind n, and each value a multiple of its modulus -/
def Lt (n : Nat) (cs : List (Vf × Int)) (x : Vf) : Prop := (∀ j, n ≤ j → x j = 0) ∧ ∀ c ∈ cs, c.2 ∣ dt n c.1 x
def Ker (n : Nat) (cs : List (Vf × Int)) (x : Vf) : Prop := (∀ j, n ≤ j → x j = 0) ∧ ∀ c ∈ cs, c.2 = 0 → dt n c.1 x = 0
theorem Ker.comb {n : Nat} {cs : List (Vf × Int)} (a b : Int) (u v : Vf) (hu : Ker n cs u) (hv : Ker n cs v) : Ker n cs fun i => a * u i + b * v i :=
  ⟨fun j hj => by show a * u j + b * v j = 0; rw [hu.1 j hj, hv.1 j hj]; simp, fun c hc h0 => by rw [dt_lin, hu.2 c hc h0, hv.2 c hc h0]; simp⟩
theorem Lt.comb {n : Nat} {cs : List (Vf × Int)} (a b : Int) (u v : Vf) (hu : Lt n cs u) (hv : Lt n cs v) : Lt n cs fun i => a * u i + b * v i :=
  ⟨fun j hj => by show a * u j + b * v j = 0; rw [hu.1 j hj, hv.1 j hj]; simp, fun c hc => by rw [dt_lin]; exact Int.dvd_add (Int.dvd_mul_of_dvd_right (hu.2 c hc)) (Int.dvd_mul_of_dvd_right (hv.2 c hc))⟩
theorem Lt.ker {n : Nat} {cs : List (Vf × Int)} {x : Vf} (h : Lt n cs x) : Ker n cs x := ⟨h.1, fun c hc h0 => by
  have := h.2 c hc
  rw [h0] at this
  exact Int.zero_dvd.mp this⟩
/-- bits of a kernel's certificate, by what is lost of the rank -/
def gk (s : Nat) : Nat → Nat
  | 0 => 1
  | r + 1 => 2 * gk s r + s + 6
theorem gk_mono {s i j : Nat} (h : i ≤ j) : gk s i ≤ gk s j := by
  induction h with
  | refl => exact Nat.le_refl _
  | step h ih => simp only [gk]; omega
structure Res (n s : Nat) (cs : List (Vf × Int)) (nb : Nat) (rs : List (List Int)) : Prop where
  B : IsB n rs
  sp : ∀ x, Spn (Rows rs) x ↔ Lt n cs x
  cert : ∃ (d : Int) (L : List (Nat × Vf)) (N : Int), Cert (Ker n cs) n (gk s (n - L.length)) d L ∧ 0 < N ∧ N.natAbs ≤ 2 ^ nb ∧ ∀ q ∈ L, Spn (Rows rs) fun j => N * q.2 j
/-- the entries of the basis -/
theorem Res.small {n s nb : Nat} {cs : List (Vf × Int)} {rs : List (List Int)} (R : Res n s cs nb rs) (hn : n ≤ 15) {r : List Int} (hr : r ∈ rs) (j : Nat) : (vf r j).natAbs < 2 ^ (nb + 2 * gk s n + 4) := by
  obtain ⟨d, L, N, C, N0, Nb, NL⟩ := R.cert
  have C := C.up' (gk_mono (s := s) (show n - L.length ≤ n by omega))
  generalize gk s n = G at *
  have hV : Ker n cs (vf r) := ((R.sp _).mp (.of ⟨r, hr, rfl⟩)).ker
  have pivs : ∀ q ∈ L, (vf r q.1).natAbs < 2 ^ (nb + G) := fun q hq => by
    have hz : ∀ j < q.1, N * q.2 j = 0 := fun j hj => by rw [C.lead q hq j hj, Int.mul_zero]
    have l := ech_lead (IsB.ech R.B) ((NL q hq).mono fun y h => (IsB.er R.B).mpr h) hz
    have Nd : 0 < N * d := Int.mul_pos N0 C.dpos
    have e0 : N * q.2 q.1 = N * d := by rw [C.diag q hq]
    cases e : ofB rs q.1 with
    | none =>
      have := l.2 e
      rw [e0] at this
      omega
    | some w =>
      obtain ⟨w', hw', ep, rfl⟩ := ofB_some e
      have dv := l.1 _ e
      rw [e0] at dv
      have le := Int.le_of_dvd Nd dv
      have wp := IsB.pp R.B hw'
      rw [ep] at wp
      have nd : (N * d).natAbs < 2 ^ (nb + G) := by
        rw [Int.natAbs_mul, Nat.pow_add]
        have := C.dsz
        have h2 := Nat.two_pow_pos nb
        calc N.natAbs * d.natAbs ≤ 2 ^ nb * d.natAbs := Nat.mul_le_mul_right _ Nb
          _ < 2 ^ nb * 2 ^ G := Nat.mul_lt_mul_of_pos_left this h2
      by_cases h1 : q.1 < pv r
      · rw [IsB.pz _ h1]
        exact Nat.two_pow_pos _
      · by_cases h2 : q.1 = pv r
        · have : r = w' := IsB.pin R.B hr hw' (by omega)
          subst this
          omega
        · have := IsB.rd R.B hr hw' (by omega)
          rw [ep] at this
          omega
  have a1 := fS_abs (x := vf r) (c := j) (s := nb + G) (t := G) (L := L) pivs fun q hq => C.sz q hq j
  rw [← C.rel _ hV] at a1
  have a2 : L.length * 2 ^ (nb + G + G) ≤ 15 * 2 ^ (nb + G + G) := Nat.mul_le_mul_right _ (Nat.le_trans C.len hn)
  have a3 : (vf r j).natAbs ≤ (d * vf r j).natAbs := by
    rw [Int.natAbs_mul]
    refine Nat.le_mul_of_pos_left _ ?_
    have := C.dpos
    omega
  have a4 : (2 : Nat) ^ (nb + 2 * G + 4) = 16 * 2 ^ (nb + G + G) := by rw [show nb + 2 * G + 4 = nb + G + G + 4 by omega, Nat.pow_add, Nat.mul_comm]
  have := Nat.two_pow_pos (nb + G + G)
  omega
/-- a condition more -/
theorem Res.next {n s nb m : Nat} {cs : List (Vf × Int)} {rs rs' : List (List Int)} {f : Vf} (R : Res n s cs nb rs) (hn : n ≤ 15) (hf : ∀ i, (f i).natAbs < 2 ^ s) (hm : m < 2 ^ 20) (B' : IsB n rs') (sp' : ∀ x, Spn (Rows rs') x ↔ (Spn (Rows rs) x ∧ (m : Int) ∣ dt n f x)) :
    Res n s (cs ++ [(f, (m : Int))]) (nb + 20) rs' := by
  obtain ⟨d, L, N, C, N0, Nb, NL⟩ := R.cert
  have sp2 : ∀ x, Spn (Rows rs') x ↔ Lt n (cs ++ [(f, (m : Int))]) x := fun x => by
    rw [sp', R.sp]
    constructor
    · rintro ⟨h1, h2⟩
      refine ⟨h1.1, fun c hc => ?_⟩
      rcases List.mem_append.mp hc with hc | hc
      · exact h1.2 c hc
      · rw [List.mem_singleton.mp hc]; exact h2
    · rintro ⟨h1, h2⟩
      exact ⟨⟨h1, fun c hc => h2 c (by simp [hc])⟩, h2 (f, (m : Int)) (by simp)⟩
  have nb2 : (2 : Nat) ^ nb ≤ 2 ^ (nb + 20) := Nat.pow_le_pow_right (by decide) (by omega)
  refine ⟨B', sp2, ?_⟩
  by_cases h0 : m = 0
  · subst h0
    obtain ⟨G', d', L', C', hl, gen⟩ := C.ker (Ker.comb) hf hn
    have eK : (fun x => Ker n cs x ∧ dt n f x = 0) = Ker n (cs ++ [(f, ((0 : Nat) : Int))]) := by
      funext x
      refine propext ⟨fun ⟨h1, h2⟩ => ⟨h1.1, fun c hc h0 => ?_⟩, fun ⟨h1, h2⟩ => ⟨⟨h1, fun c hc => h2 c (by simp [hc])⟩, h2 (f, _) (by simp) rfl⟩⟩
      rcases List.mem_append.mp hc with hc | hc
      · exact h1.2 c hc h0
      · rw [List.mem_singleton.mp hc]; exact h2
    rw [eK] at C'
    have lenL := C.len
    have lenL' := C'.len
    refine ⟨d', L', N, C'.up' ?_, N0, Nat.le_trans Nb nb2, fun q' hq' => ?_⟩
    · rcases hl with ⟨rfl, e⟩ | ⟨rfl, e⟩
      · rw [e]; exact Nat.le_refl _
      · rw [show n - L'.length = (n - L.length) + 1 by omega]
        exact Nat.le_refl _
    · obtain ⟨q1, h1, q2, h2, a, b, e⟩ := gen q' hq'
      rw [sp2]
      have z : Spn (Rows rs) fun j => N * q'.2 j := ((NL q1 h1).comb a b (NL q2 h2)).cast fun j => by
        rw [e j, Int.mul_add, Int.mul_left_comm N a, Int.mul_left_comm N b]
      have z2 := (sp2 (fun j => N * q'.2 j)).symm
      rw [← sp2, sp']
      refine ⟨z, ?_⟩
      have := (C'.mem q' hq').2 (f, ((0 : Nat) : Int)) (by simp) rfl
      rw [dt_mul, this]
      simp
  · have eK : Ker n (cs ++ [(f, (m : Int))]) = Ker n cs := by
      funext x
      refine propext ⟨fun ⟨h1, h2⟩ => ⟨h1, fun c hc => h2 c (by simp [hc])⟩, fun ⟨h1, h2⟩ => ⟨h1, fun c hc hz => ?_⟩⟩
      rcases List.mem_append.mp hc with hc | hc
      · exact h2 c hc hz
      · rw [List.mem_singleton.mp hc] at hz
        exact absurd hz (by show ((m : Nat) : Int) ≠ 0; omega)
    refine ⟨d, L, (m : Int) * N, by rw [eK]; exact C, Int.mul_pos (by omega) N0, ?_, fun q hq => ?_⟩
    · rw [Int.natAbs_mul, Nat.pow_add, Nat.mul_comm]
      exact Nat.mul_le_mul Nb (by omega)
    · rw [sp']
      refine ⟨((NL q hq).mul m).cast fun j => by rw [Int.mul_assoc], ?_⟩
      rw [dt_mul, Int.mul_assoc]
      exact ⟨_, rfl⟩
end Lat

namespace Lat
open PySem PySem.Spec PyProof.Rows L2 Mir

local macro_rules | `(tactic| walk_at "wp") => `(tactic| repeat (first
  | with_reducible refine ws_seq ?_
  | with_reducible refine ws_set ?_
  | with_reducible refine ws_ret ?_
  | with_reducible refine ws_if ?_
  | with_reducible refine ws_setI ?_
  | with_reducible refine ws_expr ?_
  | with_reducible refine ws_nil ?_
  | with_reducible refine wp_var (by with_unfolding_all rfl) ?_
  | with_reducible refine wp_c ?_
  | with_reducible refine wp_op ?_
  | with_reducible refine wp_un ?_
  | with_reducible refine wp_and ?_
  | with_reducible refine wp_or ?_
  | with_reducible refine wp_not ?_
  | with_reducible refine wp_tst ?_
  | with_reducible refine wp_tand ?_
  | with_reducible refine wp_tor ?_
  | with_reducible refine wp_tnot ?_
  | with_reducible refine wp_chain ?_
  | with_reducible refine wp_ife ?_
  | with_reducible refine wa_nil ?_
  | with_reducible refine wa_cons ?_
  | with_reducible refine wp_lst ?_
  | with_reducible refine wp_tup ?_
  | with_reducible refine wp_new ?_
  | with_reducible refine wp_fn ?_
  | with_reducible refine wp_fn1 ?_
  | with_reducible refine wp_call ?_
  | with_reducible refine wp_lm ?_
  | with_reducible refine wp_slice ?_
  | with_reducible refine wo_none ?_
  | with_reducible refine wo_some ?_
  | with_reducible refine wi_seq ?_
  | with_reducible refine wi_enum ?_
  | with_reducible refine wi_rng1 ?_
  | with_reducible refine wi_rng2 ?_
  | with_reducible refine wi_zip ?_
  | with_reducible refine wp_addI ?_
  | with_reducible refine wp_subI ?_
  | with_reducible refine wp_negI ?_
  | with_reducible refine wp_gtI ?_
  | with_reducible refine wp_ltI ?_
  | with_reducible refine wp_geI ?_
  | with_reducible refine wp_leI ?_
  | with_reducible refine wp_eqF ?_
  | with_reducible refine wp_neF ?_
  | with_reducible refine ex_bl ?_
  | (with_reducible refine if_tt ?_)
  | (with_reducible refine if_ff ?_)
  | (with_reducible refine And.intro (show List.length (List.cons _ _) ≤ 1000000 by simp only [List.length_cons, List.length_nil]; decide) ?_)
  | (with_reducible refine And.intro (show List.length List.nil ≤ 1000000 by decide) ?_)
  | (with_reducible refine And.intro (show List.length (List.cons _ _) = _ from rfl) ?_)))



/-! ### more mirrors that many laws share (printed by gen.py) -/
noncomputable def hb_gcd_of : SM := (sSeq (sSet (.name 1) (eC (.int 0))) (sSeq (sFor (itSeq (eVar 0)) (.name 2) (sSet (.name 1) (eOp ixD (eCall 2 hm_bezout [] (aCons (eVar 1) (aCons (eVar 2) aNil))) (eC (.int 0))))) (sRet (eVar 1))))
noncomputable def hm_gcd_of : List D → M D := runB 3 hb_gcd_of
noncomputable def hb_dot : SM := (sRet (eFn (fn1 sumD) (aCons (eLC (itZip (eVar 0) (eVar 1)) (.tup [(.name 2), (.name 3)]) (fun _ => pure true) (eOp mulD (eVar 2) (eVar 3)) [2, 3]) aNil)))
noncomputable def hm_dot : List D → M D := runB 4 hb_dot
noncomputable def hb_unit_form : SM := (sRet (eFn (fn1 tupleD) (aCons (eLC (itR1 (eVar 0)) (.name 2) (fun _ => pure true) (eFn (fn1 intD) (aCons (eOp (eqD false) (eVar 2) (eVar 1)) aNil)) [2]) aNil)))
noncomputable def hm_unit_form : List D → M D := runB 3 hb_unit_form
noncomputable def hb_whole : SM := (sRet (eFn (fn1 tupleD) (aCons (eLC (itR1 (eVar 0)) (.name 1) (fun _ => pure true) (eCall 2 hm_unit_form [] (aCons (eVar 0) (aCons (eVar 1) aNil))) [1]) aNil)))
noncomputable def hm_whole : List D → M D := runB 2 hb_whole
noncomputable def hb_pivot_of : SM := (sSeq (sFor (itEnum (eVar 0)) (.tup [(.name 1), (.name 2)]) (sIf (tst (eOp (eqD true) (eVar 2) (eC (.int 0)))) (sRet (eVar 1)) sNil)) (sRet (eC .non)))
noncomputable def hm_pivot_of : List D → M D := runB 3 hb_pivot_of
noncomputable def hb_coordinates : SM := (sSeq (sSet (.name 2) (eNew aNil)) (sSeq (sFor (itSeq (eVar 0)) (.name 3) (sSeq (sSet (.name 4) (eCall 1 hm_pivot_of [] (aCons (eVar 3) aNil))) (sSeq (sSet (.name 5) (eOp fdivL (eOp ixD (eVar 1) (eVar 4)) (eOp ixD (eVar 3) (eVar 4)))) (sSeq (sSet (.name 1) (eCall 4 hm_combined [] (aCons (eC (.int 1)) (aCons (eVar 1) (aCons (eUn negD (eVar 5)) (aCons (eVar 3) aNil)))))) (sExpr (eLM (fun d ds => fn1 (appD d) ds) (eVar 2) (aCons (eVar 5) aNil))))))) (sSeq (sIf (tst (eOp (isD true) (eCall 1 hm_pivot_of [] (aCons (eVar 1) aNil)) (eC .non))) (sRet (eC .non)) sNil) (sRet (eFn (fn1 tupleD) (aCons (eVar 2) aNil))))))
noncomputable def hm_coordinates : List D → M D := runB 6 hb_coordinates
noncomputable def hb_contains : SM := (sRet (eOp (isD true) (eCall 2 hm_coordinates [] (aCons (eVar 0) (aCons (eVar 1) aNil))) (eC .non)))
noncomputable def hm_contains : List D → M D := runB 2 hb_contains
noncomputable def hb_includes : SM := (sRet (eFn (fn1 allD) (aCons (eLC (itSeq (eVar 1)) (.name 2) (fun _ => pure true) (eCall 2 hm_contains [] (aCons (eVar 0) (aCons (eVar 2) aNil))) [2]) aNil)))
noncomputable def hm_includes : List D → M D := runB 3 hb_includes
noncomputable def hb_split_by : SM := (sSeq (sSet (.name 2) (eNew aNil)) (sSeq (sSet (.tup [(.name 3), (.name 4)]) (eTup (aCons (eC .non) (aCons (eC (.int 0)) aNil)))) (sSeq (sFor (itSeq (eVar 0)) (.name 5) (sSeq (sSet (.name 6) (eCall 2 hm_dot [] (aCons (eVar 1) (aCons (eVar 5) aNil)))) (sIf (tst (eOp (eqD false) (eVar 6) (eC (.int 0)))) (sExpr (eLM (fun d ds => fn1 (appD d) ds) (eVar 2) (aCons (eVar 5) aNil))) (sIf (tst (eOp (isD false) (eVar 3) (eC .non))) (sSet (.tup [(.name 3), (.name 4)]) (eIf (tst (eOp gtD (eVar 6) (eC (.int 0)))) (eTup (aCons (eVar 5) (aCons (eVar 6) aNil))) (eTup (aCons (eCall 2 hm_scale_form [] (aCons (eUn negD (eC (.int 1))) (aCons (eVar 5) aNil))) (aCons (eUn negD (eVar 6)) aNil))))) (sSeq (sSet (.tup [(.name 7), (.name 8), (.name 9)]) (eCall 2 hm_bezout [] (aCons (eVar 4) (aCons (eVar 6) aNil)))) (sSeq (sExpr (eLM (fun d ds => fn1 (appD d) ds) (eVar 2) (aCons (eCall 4 hm_combined [] (aCons (eOp fdivL (eVar 6) (eVar 7)) (aCons (eVar 3) (aCons (eUn negD (eOp fdivL (eVar 4) (eVar 7))) (aCons (eVar 5) aNil))))) aNil))) (sPar 3 4 (eCall 4 hm_combined [] (aCons (eVar 8) (aCons (eVar 3) (aCons (eVar 9) (aCons (eVar 5) aNil))))) (eVar 7)))))))) (sRet (eTup (aCons (eVar 2) (aCons (eVar 3) (aCons (eVar 4) aNil))))))))
noncomputable def hm_split_by : List D → M D := runB 10 hb_split_by
noncomputable def hb_grain_of : SM := (sRet (eCall 1 hm_gcd_of [] (aCons (eLC (itSeq (eVar 0)) (.name 2) (fun _ => pure true) (eCall 2 hm_dot [] (aCons (eVar 1) (aCons (eVar 2) aNil))) [2]) aNil)))
noncomputable def hm_grain_of : List D → M D := runB 3 hb_grain_of
noncomputable def hb_restrict : SM := (sSeq (sSet (.tup [(.name 3), (.name 4), (.name 5)]) (eCall 2 hm_split_by [] (aCons (eVar 0) (aCons (eVar 1) aNil)))) (sSeq (sIf (tst (eOp (eqD false) (eVar 5) (eC (.int 0)))) (sRet (eFn (fn1 tupleD) (aCons (eLC (itSeq (eVar 0)) (.name 6) (fun _ => pure true) (eFn (fn1 tupleD) (aCons (eVar 6) aNil)) [6]) aNil))) sNil) (sSeq (sIf (tst (eOp gtD (eVar 2) (eC (.int 0)))) (sExpr (eLM (fun d ds => fn1 (appD d) ds) (eVar 3) (aCons (eCall 2 hm_scale_form [] (aCons (eOp fdivL (eVar 2) (eCall 1 hm_gcd_of [] (aCons (eTup (aCons (eVar 2) (aCons (eVar 5) aNil))) aNil))) (aCons (eVar 4) aNil))) aNil))) sNil) (sRet (eCall 2 hm_hermite [] (aCons (eVar 3) (aCons (eFn (fn1 lenD) (aCons (eVar 1) aNil)) aNil)))))))
noncomputable def hm_restrict : List D → M D := runB 7 hb_restrict

/-! ### gcd_of, dot -/
/-- a tuple or a list of ints -/
def IntsAt (st : Sto) (d : D) (xs : List Int) : Prop := seqOf st d = some (xs.map .int)
theorem gcd_ok {d : D} {xs : List Int} {s : Nat} {st : Sto} {Q : D → Sto → Prop} (hd : IntsAt st d xs) (hb : ∀ x ∈ xs, x.natAbs < 2 ^ s) (hs : 1 ≤ s) (hs2 : 2 * s < 134217000)
    (fin : ∀ g st', 0 ≤ g → (∀ x ∈ xs, g ∣ x) → (∀ P : Int → Prop, P 0 → (∀ a b x y, P x → P y → P (a * x + b * y)) → (∀ x ∈ xs, P x) → P g) → g.natAbs < 2 ^ s → Kp [] st st' → Q (.int g) st') : Wp (hm_gcd_of [d]) st Q := by
  refine ws_run ?_
  show Ws hb_gcd_of [some d, none, none] st _ _ _ _
  unfold hb_gcd_of
  walk_at "wp"
  refine ws_for (xs.map .int, fun st' => seqOf st' d = some (xs.map .int))
    (fun i env s' => ∃ (g : Int) (u : Option D), env = [some d, some (.int g), u] ∧ 0 ≤ g ∧ (∀ x ∈ xs.take i, g ∣ x) ∧ (∀ P : Int → Prop, P 0 → (∀ a b x y, P x → P y → P (a * x + b * y)) → (∀ x ∈ xs.take i, P x) → P g) ∧ g.natAbs < 2 ^ s ∧ Kp [] st s') ?_ ?_ ?_ ?_
  · walk_at "wp"
    exact ⟨_, hd, rfl, 0, _, rfl, by decide, by simp, fun P h0 _ _ => h0, by simpa using Nat.two_pow_pos s, Kp.refl _ _⟩
  · rintro i env s' ⟨g, u, rfl, _, _, _, _, k⟩
    exact seqOf_kp k hd
  · rintro i d' env s' hd' ⟨g, u, rfl, g0, gk, gP, gb, k⟩
    rw [List.getElem?_map] at hd'
    cases ex : xs[i]? with
    | none => rw [ex] at hd'; cases hd'
    | some x =>
    rw [ex] at hd'
    cases hd'
    refine ⟨_, rfl, ?_⟩
    walk_at "wp"
    refine bezout_ok g0 gb (hb x (List.mem_of_getElem? ex)) hs hs2 fun g' a b s2 B k2 => ?_
    walk_at "wp"
    refine wp_ixL rfl (e := .int g') rfl ⟨g', _, rfl, B.nn, fun y hy => ?_, fun P h0 hc hP => ?_, ?_, k.trans k2⟩
    · rw [List.take_add_one, ex] at hy
      rcases List.mem_append.mp hy with hy | hy
      · exact Int.dvd_trans B.d1 (gk y hy)
      · have : y = x := by simpa using hy
        rw [this]
        exact B.d2
    · rw [List.take_add_one, ex] at hP
      rw [B.lin]
      exact hc _ _ _ _ (gP P h0 hc fun y hy => hP y (List.mem_append_left _ hy)) (hP x (by simp))
    · have e1 := B.d1
      have e2 := B.d2
      have hx := hb x (List.mem_of_getElem? ex)
      by_cases z : g = 0
      · by_cases z2 : x = 0
        · have : g' = 0 := by rw [B.lin, z, z2]; simp
          rw [this]
          exact Nat.two_pow_pos s
        · have := Nat.le_of_dvd (by omega) (Int.natAbs_dvd_natAbs.mpr e2)
          omega
      · have := Nat.le_of_dvd (by omega) (Int.natAbs_dvd_natAbs.mpr e1)
        omega
  · rintro env s' ⟨g, u, rfl, g0, gk, gP, gb, k⟩
    rw [show (xs.map D.int, fun st' : Sto => seqOf st' d = some (xs.map D.int)).1 = xs.map D.int from rfl, List.length_map, List.take_length] at gk gP
    walk_at "wp"
    exact fin g s' g0 gk gP gb k
theorem dt_list : ∀ {n : Nat} {f x : List Int}, f.length = n → x.length = n → (List.zipWith (fun a b => a * b) f x).sum = dt n (vf f) (vf x)
  | 0, [], [], _, _ => rfl
  | n + 1, f, x, hf, hx => by
    have ef : f = f.take n ++ [vf f n] := by
      conv => lhs; rw [← List.take_append_drop n f]
      congr 1
      rw [List.drop_eq_getElem_cons (by omega), List.drop_of_length_le (by omega)]
      unfold vf
      rw [List.getD_eq_getElem?_getD, List.getElem?_eq_getElem (by omega)]
      rfl
    have ex : x = x.take n ++ [vf x n] := by
      conv => lhs; rw [← List.take_append_drop n x]
      congr 1
      rw [List.drop_eq_getElem_cons (by omega), List.drop_of_length_le (by omega)]
      unfold vf
      rw [List.getD_eq_getElem?_getD, List.getElem?_eq_getElem (by omega)]
      rfl
    have hz : List.zipWith (fun a b : Int => a * b) f x = List.zipWith (fun a b => a * b) (f.take n) (x.take n) ++ [vf f n * vf x n] := by
      conv => lhs; rw [ef, ex]
      rw [List.zipWith_append (by rw [List.length_take, List.length_take]; omega)]
      rfl
    rw [hz, List.sum_append, dt_list (n := n) (by rw [List.length_take]; omega) (by rw [List.length_take]; omega)]
    have e1 : dt n (vf (f.take n)) (vf (x.take n)) = dt n (vf f) (vf x) := sm_congr fun i hi => by
      have a1 : vf (f.take n) i = vf f i := by unfold vf; rw [List.getD_eq_getElem?_getD, List.getD_eq_getElem?_getD, List.getElem?_take_of_lt hi]
      have a2 : vf (x.take n) i = vf x i := by unfold vf; rw [List.getD_eq_getElem?_getD, List.getD_eq_getElem?_getD, List.getElem?_take_of_lt hi]
      rw [a1, a2]
    rw [e1]
    simp [dt, sm]
theorem dot_ok {df dx : D} {f x : List Int} {n a b : Nat} {st : Sto} {Q : D → Sto → Prop} (h1 : IntsAt st df f) (h2 : IntsAt st dx x) (hf : f.length = n) (hx : x.length = n) (hn : n ≤ 1000000) (fb : ∀ j, (vf f j).natAbs < 2 ^ a) (xb : ∀ j, (vf x j).natAbs < 2 ^ b) (hab : a + b < 134217000)
    (fin : ∀ st', Kp [] st st' → Q (.int (dt n (vf f) (vf x))) st') : Wp (hm_dot [df, dx]) st Q := by
  refine ws_run ?_
  show Ws hb_dot [some df, some dx, none, none] st _ _ _ _
  unfold hb_dot
  walk_at "wp"
  refine wl_map (fun d => match d with | .tup [.int a, .int b] => .int (a * b) | _ => .non) ?_
  walk_at "wp"
  refine ⟨f.map .int, x.map .int, h1, h2, ?_, fun _ k => ⟨seqOf_kp k h1, seqOf_kp k h2⟩, fun d hd st2 k => ?_, fun st1 k1 g => ?_⟩
  · show (zipL (f.map .int) (x.map .int)).length ≤ 1000000
    rw [zipL_ints, List.length_zipWith]
    omega
  · replace hd : d ∈ zipL (f.map .int) (x.map .int) := hd
    rw [zipL_ints] at hd
    obtain ⟨i, hi, rfl⟩ := List.getElem_of_mem hd
    rw [List.getElem_zipWith]
    refine ⟨_, rfl, ?_⟩
    walk_at "wp"
    refine wp_mulB (mem_vf fb _ (List.getElem_mem _)) (mem_vf xb _ (List.getElem_mem _)) hab ?_
    exact ⟨rfl, Kp.refl _ _⟩
  · walk_at "wp"
    have e : (List.zipWith (fun a b : Int => D.tup [.int a, .int b]) f x).map (fun d => match d with | .tup [.int a, .int b] => D.int (a * b) | _ => .non) = (List.zipWith (fun a b => a * b) f x).map .int := by
      rw [List.map_zipWith, List.map_zipWith]
    refine wp_sum (bs := List.zipWith (fun a b => a * b) f x) (xs := (List.zipWith (fun a b => a * b) f x).map .int) (by simp only [lstOf, g, zipL_ints]; exact congrArg some e) (asInts_ints _) ?_
    rw [dt_list hf hx]
    exact fin _ k1
end Lat

namespace Lat
open Mir

/-! ### the lattice of all vectors -/
def uR (n p : Nat) : List Int := (List.range n).map fun i => if i = p then 1 else 0
def uM (n : Nat) : List (List Int) := (List.range n).map (uR n)
theorem uR_len (n p : Nat) : (uR n p).length = n := by unfold uR; rw [List.length_map, List.length_range]
theorem uM_len (n : Nat) : (uM n).length = n := by unfold uM; rw [List.length_map, List.length_range]
theorem uR_vf {n p : Nat} (hp : p < n) (j : Nat) : vf (uR n p) j = if j = p then 1 else 0 := by
  unfold vf uR
  rw [List.getD_eq_getElem?_getD, List.getElem?_map]
  by_cases h : j < n
  · rw [List.getElem?_range h]
    rfl
  · rw [List.getElem?_eq_none (by rw [List.length_range]; omega), if_neg (by omega)]
    rfl
theorem uM_get {n p : Nat} (hp : p < n) : (uM n).getD p [] = uR n p := by
  unfold uM
  rw [List.getD_eq_getElem?_getD, List.getElem?_map, List.getElem?_range hp]
  rfl
theorem uR_pv {n p : Nat} (hp : p < n) : pv (uR n p) = p := by
  refine pv_eq (by rw [uR_len]; exact hp) ?_ fun j hj => ?_
  · have := uR_vf hp p
    rw [if_pos rfl] at this
    intro z
    have z' : vf (uR n p) p = 0 := z
    omega
  · have := uR_vf hp j
    rw [if_neg (by omega)] at this
    exact this
theorem uM_mem {n : Nat} {r : List Int} (h : r ∈ uM n) : ∃ p, p < n ∧ r = uR n p := by
  unfold uM at h
  obtain ⟨p, hp, rfl⟩ := List.mem_map.mp h
  exact ⟨p, List.mem_range.mp hp, rfl⟩
theorem uM_isB (n : Nat) : IsB n (uM n) := by
  refine ⟨fun r hr => ?_, fun r hr => ?_, ?_, fun i hi => ?_, fun i hi j hj => ?_⟩
  · obtain ⟨p, hp, rfl⟩ := uM_mem hr
    exact uR_len n p
  · obtain ⟨p, hp, rfl⟩ := uM_mem hr
    rw [uR_pv hp]
    exact hp
  · have : (uM n).map pv = List.range n := by
      unfold uM
      rw [List.map_map]
      refine (List.map_congr_left fun p hp => ?_).trans (List.map_id _)
      exact uR_pv (List.mem_range.mp hp)
    rw [this]
    exact List.pairwise_lt_range
  · rw [uM_len] at hi
    unfold ent
    rw [uM_get hi, uR_pv hi]
    have := uR_vf hi i
    rw [if_pos rfl] at this
    have e : (uR n i).getD i 0 = 1 := this
    omega
  · rw [uM_len] at hi
    unfold ent
    rw [uM_get hi, uM_get (show j < n by omega), uR_pv hi]
    have a := uR_vf hi i
    rw [if_pos rfl] at a
    have b := uR_vf (show j < n by omega) i
    rw [if_neg (by omega)] at b
    have a' : (uR n i).getD i 0 = 1 := a
    have b' : (uR n j).getD i 0 = 0 := b
    omega
theorem spn_units {n : Nat} {x : Vf} (h : ∀ j, n ≤ j → x j = 0) : Spn (Rows (uM n)) x := by
  have all : ∀ m, m ≤ n → Spn (Rows (uM n)) fun j => if j < m then x j else 0 := by
    intro m
    induction m with
    | zero => exact fun _ => Spn.zero.cast fun j => by simp
    | succ m ih =>
      intro hm
      have h1 := ih (by omega)
      have h2 : Spn (Rows (uM n)) (vf (uR n m)) := .of ⟨_, by unfold uM; exact List.mem_map.mpr ⟨m, List.mem_range.mpr (by omega), rfl⟩, rfl⟩
      refine ((h2.mul (x m)).plus h1).cast fun j => ?_
      rw [uR_vf (by omega)]
      by_cases e : j = m
      · subst e
        simp
      · rw [if_neg e]
        by_cases l : j < m
        · rw [if_pos l, if_pos (by omega)]; simp
        · rw [if_neg l, if_neg (by omega)]; simp
  refine (all n (Nat.le_refl n)).cast fun j => ?_
  by_cases l : j < n
  · rw [if_pos l]
  · rw [if_neg l, h j (by omega)]
def uL (n : Nat) : List (Nat × Vf) := (List.range n).map fun p => (p, vf (uR n p))
theorem uL_mem {n : Nat} {q : Nat × Vf} (h : q ∈ uL n) : q.1 < n ∧ q.2 = vf (uR n q.1) := by
  unfold uL at h
  obtain ⟨p, hp, rfl⟩ := List.mem_map.mp h
  exact ⟨List.mem_range.mp hp, rfl⟩
theorem uL_map (n : Nat) : (uL n).map (·.1) = List.range n := by
  unfold uL
  rw [List.map_map]
  exact (List.map_congr_left fun _ _ => rfl).trans (List.map_id _)
theorem uL_cert (n : Nat) : Cert (Ker n []) n 1 1 (uL n) where
  dpos := by decide
  dsz := by decide
  mem := fun q hq => ⟨fun j hj => by
    obtain ⟨h1, h2⟩ := uL_mem hq
    rw [h2]
    exact vf_top (uR_len n q.1) j hj, by simp⟩
  lt := fun q hq => (uL_mem hq).1
  lead := fun q hq c hc => by
    obtain ⟨h1, h2⟩ := uL_mem hq
    rw [h2, uR_vf h1, if_neg (by omega)]
  diag := fun q hq => by
    obtain ⟨h1, h2⟩ := uL_mem hq
    rw [h2, uR_vf h1, if_pos rfl]
  off := fun q hq q' hq' hne => by
    obtain ⟨h1, h2⟩ := uL_mem hq
    rw [h2, uR_vf h1, if_neg (Ne.symm hne)]
  nd := by rw [uL_map]; exact List.nodup_range
  rel := fun x hx c => by
    by_cases h : c < n
    · have hm : (c, vf (uR n c)) ∈ uL n := by unfold uL; exact List.mem_map.mpr ⟨c, List.mem_range.mpr h, rfl⟩
      rw [fS_one hm (by rw [uL_map]; exact List.nodup_range) fun q hq hne => ?_]
      · show 1 * x c = x c * vf (uR n c) c
        rw [uR_vf h, if_pos rfl]
        omega
      · obtain ⟨h1, h2⟩ := uL_mem hq
        rw [h2, uR_vf h1, if_neg (Ne.symm hne), Int.mul_zero]
    · rw [hx.1 c (by omega), fS_zero fun q hq => ?_]
      · simp
      · obtain ⟨h1, h2⟩ := uL_mem hq
        rw [h2, uR_vf h1, if_neg (by omega), Int.mul_zero]
  sz := fun q hq c => by
    obtain ⟨h1, h2⟩ := uL_mem hq
    rw [h2, uR_vf h1]
    split <;> decide
  top := fun q hq c hc => by
    obtain ⟨h1, h2⟩ := uL_mem hq
    rw [h2]
    exact vf_top (uR_len n q.1) c hc
theorem Res.start (n s : Nat) : Res n s [] 0 (uM n) := by
  refine ⟨uM_isB n, fun x => ⟨fun h => ?_, fun h => spn_units h.1⟩, 1, uL n, 1, ?_, by decide, by decide, fun q hq => ?_⟩
  · refine ⟨h.all (P := fun x => ∀ j, n ≤ j → x j = 0) (fun _ _ => rfl) fun k g v ⟨r, hr, e⟩ hv j hj => ?_, by simp⟩
    show k * g j + v j = 0
    rw [e, vf_top ((uM_isB n).len r hr) j hj, hv j hj]
    simp
  · have : n - (uL n).length = 0 := by unfold uL; rw [List.length_map, List.length_range]; omega
    rw [this]
    exact uL_cert n
  · obtain ⟨h1, h2⟩ := uL_mem hq
    refine (Spn.of (S := Rows (uM n)) (g := vf (uR n q.1)) ⟨_, by unfold uM; exact List.mem_map.mpr ⟨q.1, List.mem_range.mpr h1, rfl⟩, rfl⟩).cast fun j => ?_
    rw [h2]
    omega
/-! ### split_by: what is kept -/
/-- rows of value 0, perhaps a top of value g > 0: together the span of what was seen -/
structure Spl (n : Nat) (f : Vf) (S : Vf → Prop) (rs : List (List Int)) (top : Option (List Int)) (g : Int) : Prop where
  len : ∀ r ∈ rs, r.length = n
  val : ∀ r ∈ rs, dt n f (vf r) = 0
  tl : ∀ t, top = some t → t.length = n ∧ dt n f (vf t) = g ∧ 0 < g
  no : top = none → g = 0
  to : ∀ x, S x → Spn (fun x => Rows rs x ∨ ∃ t, top = some t ∧ x = vf t) x
  fro : ∀ x, (Rows rs x ∨ ∃ t, top = some t ∧ x = vf t) → Spn S x
theorem dt_rows {n : Nat} {f : Vf} {rs : List (List Int)} (h : ∀ r ∈ rs, dt n f (vf r) = 0) {x : Vf} (hx : Spn (Rows rs) x) : dt n f x = 0 :=
  hx.all (P := fun x => dt n f x = 0) (dt_zero n f) fun k g v ⟨r, hr, e⟩ hv => by
    have := dt_lin n f g v k 1
    rw [show dt n f (fun c => k * g c + v c) = dt n f (fun c => k * g c + 1 * v c) from dt_cast fun i => by omega, this, e, h r hr, hv]
    simp
/-- the restricted lattice -/
theorem Spl.cut {n : Nat} {f : Vf} {S : Vf → Prop} {rs : List (List Int)} {t : List Int} {g m k : Int} (P : Spl n f S rs (some t) g) (hk : ∀ c : Int, m ∣ c * g ↔ k ∣ c) (x : Vf) :
    Spn (fun x => Rows rs x ∨ x = fun j => k * vf t j) x ↔ Spn S x ∧ m ∣ dt n f x := by
  have tv := P.tl t rfl
  have rep : ∀ x, Spn S x → ∃ c : Int, ∃ r, Spn (Rows rs) r ∧ ∀ j, x j = c * vf t j + r j := fun x hx => by
    have := hx.bind P.to
    refine this.all (P := fun x => ∃ c : Int, ∃ r, Spn (Rows rs) r ∧ ∀ j, x j = c * vf t j + r j) ⟨0, _, .zero, fun j => by simp⟩ fun a u v hu ⟨c, r, hr, e⟩ => ?_
    rcases hu with hu | ⟨t', ht, e'⟩
    · exact ⟨c, _, ((Spn.of hu).mul a).plus hr, fun j => by show a * u j + v j = c * vf t j + (a * u j + r j); rw [e j]; omega⟩
    · cases ht
      exact ⟨a + c, r, hr, fun j => by show a * u j + v j = (a + c) * vf t j + r j; rw [e j, e', Int.add_mul]; omega⟩
  have rV : ∀ {r}, Spn (Rows rs) r → Spn S r := fun h => h.bind fun y hy => P.fro y (.inl hy)
  have tV : Spn S (vf t) := P.fro _ (.inr ⟨t, rfl, rfl⟩)
  constructor
  · intro h
    refine h.all (P := fun x => Spn S x ∧ m ∣ dt n f x) ⟨.zero, by rw [dt_zero]; exact Int.dvd_zero m⟩ fun a u v hu ⟨h1, h2⟩ => ?_
    have ev : dt n f (fun c => a * u c + v c) = a * dt n f u + dt n f v := by
      have := dt_lin n f u v a 1
      rw [Int.one_mul] at this
      rw [← this]
      exact dt_cast fun i => by omega
    rcases hu with hu | hu
    · refine ⟨((rV (.of hu)).mul a).plus h1, ?_⟩
      rw [ev, dt_rows P.val (.of hu), Int.mul_zero, Int.zero_add]
      exact h2
    · subst hu
      refine ⟨((tV.mul k).mul a).plus h1, ?_⟩
      rw [ev, dt_mul, tv.2.1]
      exact Int.dvd_add (Int.dvd_mul_of_dvd_right ((hk k).mpr (Int.dvd_refl k))) h2
  · rintro ⟨h1, h2⟩
    obtain ⟨c, r, hr, e⟩ := rep x h1
    have ev : dt n f x = c * g := by
      have := dt_lin n f (vf t) r c 1
      rw [dt_rows P.val hr, tv.2.1] at this
      rw [dt_cast (v := fun i => c * vf t i + 1 * r i) fun i => by rw [e i]; omega, this]
      omega
    rw [ev] at h2
    obtain ⟨q, hq⟩ := (hk c).mp h2
    have z1 : Spn (fun x => Rows rs x ∨ x = fun j => k * vf t j) fun j => k * vf t j := .of (.inr rfl)
    refine ((z1.mul q).plus (hr.mono fun y hy => .inl hy)).cast fun j => ?_
    rw [e j, hq, ← Int.mul_assoc, Int.mul_comm q k]

section
variable {n : Nat} {f : Vf} {S : Vf → Prop} {rs : List (List Int)} {top : Option (List Int)} {g : Int} {r : List Int}
theorem Spl.nil : Spl n f (fun _ => False) [] none 0 := ⟨by simp, by simp, fun t h => (nomatch h), fun _ => rfl, fun x h => h.elim, fun x h => by
  rcases h with ⟨r, hr, _⟩ | ⟨t, ht, _⟩
  · simp at hr
  · cases ht⟩
theorem Rows.snoc {x : Vf} : Rows (rs ++ [r]) x ↔ Rows rs x ∨ x = vf r := by
  constructor
  · rintro ⟨q, hq, rfl⟩
    rcases List.mem_append.mp hq with hq | hq
    · exact .inl ⟨q, hq, rfl⟩
    · exact .inr (by rw [List.mem_singleton.mp hq])
  · rintro (⟨q, hq, rfl⟩ | rfl)
    · exact ⟨q, by simp [hq], rfl⟩
    · exact ⟨r, by simp, rfl⟩
/-- a row of value 0 -/
theorem Spl.zero (P : Spl n f S rs top g) (hr : r.length = n) (h0 : dt n f (vf r) = 0) : Spl n f (fun x => S x ∨ x = vf r) (rs ++ [r]) top g := by
  refine ⟨fun q hq => ?_, fun q hq => ?_, P.tl, P.no, fun x hx => ?_, fun x hx => ?_⟩
  · rcases List.mem_append.mp hq with hq | hq
    · exact P.len q hq
    · rw [List.mem_singleton.mp hq]; exact hr
  · rcases List.mem_append.mp hq with hq | hq
    · exact P.val q hq
    · rw [List.mem_singleton.mp hq]; exact h0
  · rcases hx with hx | rfl
    · exact (P.to x hx).mono fun y hy => hy.imp (fun h => Rows.snoc.mpr (.inl h)) id
    · exact .of (.inl (Rows.snoc.mpr (.inr rfl)))
  · rcases hx with hx | hx
    · rcases Rows.snoc.mp hx with hx | rfl
      · exact (P.fro x (.inl hx)).mono fun _ h => .inl h
      · exact .of (.inr rfl)
    · exact (P.fro x (.inr hx)).mono fun _ h => .inl h
/-- the first row of another value -/
theorem Spl.first {t : List Int} {s : Int} (P : Spl n f S rs none g) (hs : s = 1 ∨ s = -1) (ht : t.length = n) (ev : vf t = fun j => s * vf r j) (hp : 0 < s * dt n f (vf r)) :
    Spl n f (fun x => S x ∨ x = vf r) rs (some t) (s * dt n f (vf r)) := by
  have ss : s * s = 1 := by rcases hs with rfl | rfl <;> rfl
  refine ⟨P.len, P.val, fun t' h => ?_, fun h => (nomatch h), fun x hx => ?_, fun x hx => ?_⟩
  · cases h
    exact ⟨ht, by rw [ev, dt_mul], hp⟩
  · rcases hx with hx | rfl
    · exact (P.to x hx).mono fun y hy => by
        rcases hy with hy | ⟨t', h, _⟩
        · exact .inl hy
        · cases h
    · refine ((Spn.of (S := fun x => Rows rs x ∨ ∃ t', some t = some t' ∧ x = vf t') (.inr ⟨t, rfl, rfl⟩)).mul s).cast fun j => ?_
      rw [ev]
      show s * (s * vf r j) = vf r j
      rw [← Int.mul_assoc, ss, Int.one_mul]
  · rcases hx with hx | ⟨t', h, rfl⟩
    · exact (P.fro x (.inl hx)).mono fun _ h => .inl h
    · cases h
      rw [ev]
      exact (Spn.of (.inr rfl)).mul s
/-- another row of another value -/
theorem Spl.more {t u w : List Int} {c al be : Int} (P : Spl n f S rs (some t) g) (hr : dt n f (vf r) ≠ 0) (hc : 0 < c) (lin : c = al * g + be * dt n f (vf r)) (d1 : c ∣ g) (d2 : c ∣ dt n f (vf r))
    (hu : u.length = n) (hw : w.length = n) (eu : vf u = fun j => (dt n f (vf r) / c) * vf t j + -(g / c) * vf r j) (ew : vf w = fun j => al * vf t j + be * vf r j) :
    Spl n f (fun x => S x ∨ x = vf r) (rs ++ [u]) (some w) c := by
  have tv := P.tl t rfl
  generalize hh : dt n f (vf r) = h at *
  obtain ⟨m, hm⟩ := d1
  obtain ⟨k, hk⟩ := d2
  have em : g / c = m := by rw [hm]; exact Int.mul_ediv_cancel_left _ (by omega)
  have ek : h / c = k := by rw [hk]; exact Int.mul_ediv_cancel_left _ (by omega)
  rw [em, ek] at eu
  have det : al * m + be * k = 1 := by
    have : c * (al * m + be * k) = c * 1 := by
      rw [Int.mul_add, Int.mul_left_comm c al, Int.mul_left_comm c be, ← hm, ← hk, Int.mul_one]
      exact lin.symm
    exact Int.eq_of_mul_eq_mul_left (by omega) this
  have inS : ∀ {x}, Spn S x → Spn (fun x => S x ∨ x = vf r) x := fun h => h.mono fun _ h => .inl h
  have rS : Spn (fun x => S x ∨ x = vf r) (vf r) := .of (.inr rfl)
  have tS : Spn (fun x => S x ∨ x = vf r) (vf t) := inS (P.fro _ (.inr ⟨t, rfl, rfl⟩))
  refine ⟨fun q hq => ?_, fun q hq => ?_, fun t' e => ?_, fun e => (nomatch e), fun x hx => ?_, fun x hx => ?_⟩
  · rcases List.mem_append.mp hq with hq | hq
    · exact P.len q hq
    · rw [List.mem_singleton.mp hq]; exact hu
  · rcases List.mem_append.mp hq with hq | hq
    · exact P.val q hq
    · rw [List.mem_singleton.mp hq, eu, dt_lin, tv.2.1, hh, hm, hk, Int.mul_left_comm k c m, Int.neg_mul, Int.mul_left_comm m c k, Int.mul_comm k m]
      omega
  · cases e
    exact ⟨hw, by rw [ew, dt_lin, tv.2.1, hh]; exact lin.symm, hc⟩
  · have uN : Spn (fun x => Rows (rs ++ [u]) x ∨ ∃ t', some w = some t' ∧ x = vf t') (vf u) := .of (.inl (Rows.snoc.mpr (.inr rfl)))
    have wN : Spn (fun x => Rows (rs ++ [u]) x ∨ ∃ t', some w = some t' ∧ x = vf t') (vf w) := .of (.inr ⟨w, rfl, rfl⟩)
    have tN : Spn (fun x => Rows (rs ++ [u]) x ∨ ∃ t', some w = some t' ∧ x = vf t') (vf t) := (wN.comb m be uN).cast fun j => by
      rw [ew, eu]
      show m * (al * vf t j + be * vf r j) + be * (k * vf t j + -m * vf r j) = vf t j
      have : (al * m + be * k) * vf t j = vf t j := by rw [det, Int.one_mul]
      rw [Int.add_mul] at this
      rw [Int.mul_add, Int.mul_add, ← Int.mul_assoc, ← Int.mul_assoc, ← Int.mul_assoc, ← Int.mul_assoc, Int.mul_comm m al, Int.mul_comm m be, Int.mul_neg, Int.neg_mul]
      omega
    rcases hx with hx | rfl
    · refine (P.to x hx).bind fun y hy => ?_
      rcases hy with hy | ⟨t', e, rfl⟩
      · exact .of (.inl (Rows.snoc.mpr (.inl hy)))
      · cases e
        exact tN
    · refine (wN.comb k (-al) uN).cast fun j => ?_
      rw [ew, eu]
      show k * (al * vf t j + be * vf r j) + -al * (k * vf t j + -m * vf r j) = vf r j
      have : (al * m + be * k) * vf r j = vf r j := by rw [det, Int.one_mul]
      rw [Int.add_mul] at this
      rw [Int.mul_add, Int.mul_add, ← Int.mul_assoc, ← Int.mul_assoc, ← Int.mul_assoc, ← Int.mul_assoc, Int.mul_comm k al, Int.mul_comm k be, Int.neg_mul_neg, Int.neg_mul, Int.neg_mul]
      omega
  · rcases hx with hx | ⟨t', e, rfl⟩
    · rcases Rows.snoc.mp hx with hx | rfl
      · exact inS (P.fro x (.inl hx))
      · rw [eu]
        exact tS.comb k (-m) rS
    · cases e
      rw [ew]
      exact tS.comb al be rS
end
end Lat

namespace Lat
open PySem PySem.Spec PyProof.Rows L2 Mir

local macro_rules | `(tactic| walk_at "wp") => `(tactic| repeat (first
  | with_reducible refine ws_seq ?_
  | with_reducible refine ws_set ?_
  | with_reducible refine ws_ret ?_
  | with_reducible refine ws_if ?_
  | with_reducible refine ws_setI ?_
  | with_reducible refine ws_expr ?_
  | with_reducible refine ws_nil ?_
  | with_reducible refine wp_var (by with_unfolding_all rfl) ?_
  | with_reducible refine wp_c ?_
  | with_reducible refine wp_op ?_
  | with_reducible refine wp_un ?_
  | with_reducible refine wp_and ?_
  | with_reducible refine wp_or ?_
  | with_reducible refine wp_not ?_
  | with_reducible refine wp_tst ?_
  | with_reducible refine wp_tand ?_
  | with_reducible refine wp_tor ?_
  | with_reducible refine wp_tnot ?_
  | with_reducible refine wp_chain ?_
  | with_reducible refine wp_ife ?_
  | with_reducible refine wa_nil ?_
  | with_reducible refine wa_cons ?_
  | with_reducible refine wp_lst ?_
  | with_reducible refine wp_tup ?_
  | with_reducible refine wp_new ?_
  | with_reducible refine wp_fn ?_
  | with_reducible refine wp_fn1 ?_
  | with_reducible refine wp_call ?_
  | with_reducible refine wp_lm ?_
  | with_reducible refine wp_slice ?_
  | with_reducible refine wo_none ?_
  | with_reducible refine wo_some ?_
  | with_reducible refine wi_seq ?_
  | with_reducible refine wi_enum ?_
  | with_reducible refine wi_rng1 ?_
  | with_reducible refine wi_rng2 ?_
  | with_reducible refine wi_zip ?_
  | with_reducible refine wp_addI ?_
  | with_reducible refine wp_subI ?_
  | with_reducible refine wp_negI ?_
  | with_reducible refine wp_gtI ?_
  | with_reducible refine wp_ltI ?_
  | with_reducible refine wp_geI ?_
  | with_reducible refine wp_leI ?_
  | with_reducible refine wp_eqF ?_
  | with_reducible refine wp_neF ?_
  | with_reducible refine ex_bl ?_
  | (with_reducible refine if_tt ?_)
  | (with_reducible refine if_ff ?_)
  | (with_reducible refine And.intro (show List.length (List.cons _ _) ≤ 1000000 by simp only [List.length_cons, List.length_nil]; decide) ?_)
  | (with_reducible refine And.intro (show List.length List.nil ≤ 1000000 by decide) ?_)
  | (with_reducible refine And.intro (show List.length (List.cons _ _) = _ from rfl) ?_)))



/-! ### whole -/
theorem unit_ok {n p : Nat} {st : Sto} {Q : D → Sto → Prop} (hn : n ≤ 1000) (fin : ∀ st', Kp [] st st' → Q (rowD (uR n p)) st') : Wp (hm_unit_form [.int n, .int p]) st Q := by
  refine ws_run ?_
  show Ws hb_unit_form [some (.int n), some (.int p), none] st _ _ _ _
  unfold hb_unit_form
  walk_at "wp"
  refine wl_map (fun d => match d with | .int i => .int (if i = (p : Int) then 1 else 0) | _ => .non) ?_
  walk_at "wp"
  refine ⟨n, rfl, by omega, by omega, ?_, fun _ _ => trivial, fun d hd st2 k => ?_, fun st1 k1 g => ?_⟩
  · show (rngL 0 n).length ≤ 1000000
    rw [rngL_len]
    omega
  · obtain ⟨i, hi, e⟩ := List.getElem_of_mem hd
    obtain ⟨rfl, _⟩ := rngL_get (show (rngL 0 (n : Int))[i]? = some d by rw [← e]; exact List.getElem?_eq_getElem hi)
    refine ⟨_, rfl, ?_⟩
    walk_at "wp"
    refine wp_intB ⟨?_, Kp.refl _ _⟩
    by_cases h : (0 : Int) + (i : Int) = p <;> simp [h]
  · walk_at "wp"
    refine wp_tuple (xs := (uR n p).map .int) ?_ (fin _ k1)
    simp only [seqOf, lstOf, g]
    refine congrArg some ?_
    unfold rngL uR
    rw [List.map_map, List.map_map]
    refine List.ext_getElem? fun i => ?_
    rw [List.getElem?_map, List.getElem?_map]
    have e : ((n : Int) - 0).toNat = n := by omega
    rw [e]
    cases (List.range n)[i]? with
    | none => rfl
    | some j =>
      show some (D.int (if (0 : Int) + (j : Nat) = p then 1 else 0)) = some (D.int (if j = p then 1 else 0))
      by_cases h : j = p
      · rw [if_pos h, if_pos (by omega)]
      · rw [if_neg h, if_neg (by omega)]
theorem whole_ok {n : Nat} {st : Sto} {Q : D → Sto → Prop} (hn : n ≤ 1000) (fin : ∀ st', Kp [] st st' → Q (matD (uM n)) st') : Wp (hm_whole [.int n]) st Q := by
  refine ws_run ?_
  show Ws hb_whole [some (.int n), none] st _ _ _ _
  unfold hb_whole
  walk_at "wp"
  refine wl_map (fun d => match d with | .int i => rowD (uR n i.toNat) | _ => .non) ?_
  walk_at "wp"
  refine ⟨n, rfl, by omega, by omega, ?_, fun _ _ => trivial, fun d hd st2 k => ?_, fun st1 k1 g => ?_⟩
  · show (rngL 0 n).length ≤ 1000000
    rw [rngL_len]
    omega
  · obtain ⟨i, hi, e⟩ := List.getElem_of_mem hd
    obtain ⟨rfl, _⟩ := rngL_get (show (rngL 0 (n : Int))[i]? = some d by rw [← e]; exact List.getElem?_eq_getElem hi)
    refine ⟨_, rfl, ?_⟩
    walk_at "wp"
    rw [Int.zero_add]
    exact unit_ok hn fun s' k' => ⟨rfl, k'⟩
  · walk_at "wp"
    refine wp_tuple (xs := (uM n).map rowD) ?_ (fin _ k1)
    simp only [seqOf, lstOf, g]
    refine congrArg some ?_
    unfold rngL uM
    rw [List.map_map, List.map_map]
    have e : ((n : Int) - 0).toNat = n := by omega
    rw [e]
    refine List.map_congr_left fun j _ => ?_
    show rowD (uR n ((0 : Int) + (j : Nat)).toNat) = rowD (uR n j)
    rw [Int.zero_add, Int.toNat_natCast]
/-! ### split_by -/
def topD : Option (List Int) → D
  | none => .non
  | some t => rowD t
theorem IntsAt.row (st : Sto) (xs : List Int) : IntsAt st (rowD xs) xs := rfl
theorem split_ok {n b s V : Nat} {rs : List (List Int)} {f : List Int} {st : Sto} {Q : D → Sto → Prop} (hn : n ≤ 15) (hrs : rs.length ≤ 15) (hl : ∀ r ∈ rs, r.length = n) (hb : ∀ r ∈ rs, ∀ j, (vf r j).natAbs < 2 ^ b) (hf : f.length = n) (fb : ∀ j, (vf f j).natAbs < 2 ^ s)
    (hV : V = s + b + 4) (lim : V + b + 18 * (V + 2) < 134217000)
    (fin : ∀ p us top g st', Spl n (vf f) (Rows rs) us top g → st'[p]? = some (.lst (us.map rowD)) → st.length ≤ p → us.length ≤ rs.length → (∀ u ∈ us, ∀ j, (vf u j).natAbs < 2 ^ (b + 16 * (V + 2))) → (∀ t, top = some t → ∀ j, (vf t j).natAbs < 2 ^ (b + 16 * (V + 2))) → g.natAbs < 2 ^ V → Kp [] st st' →
      Q (.tup [.obj p, topD top, .int g]) st') : Wp (hm_split_by [matD rs, rowD f]) st Q := by
  have V2 : 2 ≤ 2 ^ V := by
    have : (2 : Nat) ^ 1 ≤ 2 ^ V := Nat.pow_le_pow_right (by decide) (by omega)
    omega
  refine ws_run ?_
  show Ws hb_split_by [some (matD rs), some (rowD f), none, none, none, none, none, none, none, none] st _ _ _ _
  unfold hb_split_by
  walk_at "wp"
  have k0 : Kp [] st (st ++ [.lst []]) := Kp.app _ _ _
  have g0 : (st ++ [O.lst []])[st.length]? = some (.lst []) := app_get
  have hp : st.length ≤ st.length := Nat.le_refl _
  generalize st ++ [O.lst []] = s0 at k0 g0 ⊢
  generalize hpe : st.length = p at g0 ⊢
  refine ws_setT ?_
  walk_at "wp"
  refine ⟨_, rfl, ?_⟩
  walk_at "wp"
  refine ws_for (rs.map rowD, fun st' => seqOf st' (matD rs) = some (rs.map rowD))
    (fun i env s' => ∃ (us : List (List Int)) (top : Option (List Int)) (g : Int) (w5 w6 w7 w8 w9 : Option D), env = [some (matD rs), some (rowD f), some (.obj p), some (topD top), some (.int g), w5, w6, w7, w8, w9] ∧ Kp [] st s' ∧ s'[p]? = some (.lst (us.map rowD)) ∧ us.length ≤ i ∧
      Spl n (vf f) (Rows (rs.take i)) us top g ∧ (∀ u ∈ us, ∀ j, (vf u j).natAbs < 2 ^ (b + (i + 1) * (V + 2))) ∧ (∀ t, top = some t → ∀ j, (vf t j).natAbs < 2 ^ (b + (i + 1) * (V + 2))) ∧ g.natAbs < 2 ^ V) ?_ ?_ ?_ ?_
  · walk_at "wp"
    refine ⟨_, rfl, rfl, [], none, 0, _, _, _, _, _, rfl, k0, g0, Nat.le_refl _, ?_, by simp, fun t h => (nomatch h), by simpa using Nat.two_pow_pos V⟩
    have : Rows (rs.take 0) = fun _ => False := by
      funext x
      exact propext ⟨fun ⟨r, hr, _⟩ => by simp at hr, fun h => h.elim⟩
    rw [this]
    exact Spl.nil
  · rintro i env s' _
    rfl
  · rintro i d env s1 hd ⟨us, top, g, w5, w6, w7, w8, w9, rfl, k, gp, hul, P, ub, tb, gb⟩
    rw [List.getElem?_map] at hd
    cases er : rs[i]? with
    | none => rw [er] at hd; cases hd
    | some r =>
    rw [er] at hd
    cases hd
    have hi := (List.getElem?_eq_some_iff.mp er).1
    have hrm : r ∈ rs := List.mem_of_getElem? er
    have hr := hl r hrm
    have rb := hb r hrm
    have hgd : rs.getD i [] = r := by rw [List.getD_eq_getElem?_getD, er]; rfl
    have eS : Rows (rs.take (i + 1)) = fun x => Rows (rs.take i) x ∨ x = vf r := by rw [rows_succ hi, hgd]
    have hT : (i + 1 + 1) * (V + 2) = (i + 1) * (V + 2) + (V + 2) := by rw [Nat.add_mul (i + 1), Nat.one_mul]
    have hT15 : (i + 1 + 1) * (V + 2) ≤ 16 * (V + 2) := Nat.mul_le_mul_right _ (by omega)
    have mono : ∀ {x : Int}, x.natAbs < 2 ^ (b + (i + 1) * (V + 2)) → x.natAbs < 2 ^ (b + (i + 1 + 1) * (V + 2)) := fun hx => Nat.lt_of_lt_of_le hx (Nat.pow_le_pow_right (by decide) (by omega))
    have rb2 : ∀ j, (vf r j).natAbs < 2 ^ (b + (i + 1 + 1) * (V + 2)) := fun j => Nat.lt_of_lt_of_le (rb j) (Nat.pow_le_pow_right (by decide) (by omega))
    have hb0 : (dt n (vf f) (vf r)).natAbs < 2 ^ V := by rw [hV]; exact dt_abs hn fb rb
    refine ⟨_, rfl, ?_⟩
    walk_at "wp"
    refine dot_ok (IntsAt.row _ f) (IntsAt.row _ r) hf hr (by omega) fb rb (by omega) fun s2 k2 => ?_
    have gp2 := k2.at' _ _ (by simp) gp
    have k2 := k.trans k2
    generalize hh : dt n (vf f) (vf r) = h at *
    walk_at "wp"
    refine if_bl (fun h0 => ?_) fun h0 => ?_
    · walk_at "wp"
      refine ⟨by simp only [lstOf, gp2]; rfl, ?_⟩
      walk_at "wp"
      refine wp_app gp2 (by rw [List.length_map]; omega) ?_
      have ex : us.map rowD ++ [rowD r] = (us ++ [r]).map rowD := by simp
      rw [ex]
      refine ⟨us ++ [r], top, g, _, _, _, _, _, rfl, k2.set (.inl (by omega)) _, set_get gp2, by simp; omega, by rw [eS]; exact P.zero hr (by rw [hh]; exact h0), fun u hu j => ?_, fun t ht j => mono (tb t ht j), gb⟩
      rcases List.mem_append.mp hu with hu | hu
      · exact mono (ub u hu j)
      · rw [List.mem_singleton.mp hu]; exact rb2 j
    · walk_at "wp"
      cases top with
      | none =>
        refine ⟨_, _, rfl, ?_⟩
        refine ⟨true, rfl, ?_⟩
        refine if_tt ?_
        refine ws_setT ?_
        walk_at "wp"
        by_cases hpos : 0 < h
        · rw [decide_eq_true hpos]
          refine if_tt ?_
          walk_at "wp"
          refine ⟨_, rfl, ?_⟩
          have F := P.first (r := r) (t := r) (s := 1) (.inl rfl) hr (by funext j; omega) (by rw [hh]; omega)
          rw [hh, Int.one_mul] at F
          exact ⟨us, some r, h, _, _, _, _, _, rfl, k2, gp2, by omega, by rw [eS]; exact F, fun u hu j => mono (ub u hu j), fun t ht j => by cases ht; exact rb2 j, hb0⟩
        · rw [decide_eq_false hpos]
          refine if_ff ?_
          walk_at "wp"
          refine scale_ok (a := 1) (b := b) (by decide) rb (by omega) (by omega) fun s3 k3 => ?_
          walk_at "wp"
          refine ⟨_, rfl, ?_⟩
          have F := P.first (r := r) (t := r.map fun x => -1 * x) (s := -1) (.inr rfl) (by rw [List.length_map]; exact hr) smul_vf (by rw [hh]; omega)
          rw [hh] at F
          have e1 : -h = -1 * h := by omega
          rw [e1]
          refine ⟨us, some (r.map fun x => -1 * x), -1 * h, _, _, _, _, _, rfl, k2.trans k3, k3.at' _ _ (by simp) gp2, by omega, by rw [eS]; exact F, fun u hu j => mono (ub u hu j), fun t ht j => ?_, by omega⟩
          cases ht
          rw [smul_vf]
          have := rb2 j
          show (-1 * vf r j).natAbs < _
          omega
      | some t =>
        refine ⟨_, _, rfl, ?_⟩
        refine ⟨false, rfl, ?_⟩
        refine if_ff ?_
        have tv := P.tl t rfl
        have tb := tb t rfl
        refine ws_seq (ws_setT ?_)
        walk_at "wp"
        refine bezout_ok (s := V) (Int.le_of_lt tv.2.2) gb hb0 (by omega) (by omega) fun c al be s3 B k3 => ?_
        have cpos := B.pos (.inr h0)
        have mxs : ∀ {x y : Int}, x.natAbs ≤ mx y → y.natAbs < 2 ^ V → x.natAbs < 2 ^ V := fun {x y} a b => by unfold mx at a; omega
        have alb := mxs B.bx hb0
        have beb := mxs B.bY gb
        refine ⟨_, rfl, ?_⟩
        walk_at "wp"
        have gp3 := k3.at' _ _ (by simp) gp2
        have k3 := k2.trans k3
        refine ⟨by simp only [lstOf, gp3]; rfl, ?_⟩
        walk_at "wp"
        refine wp_fdivL (j := c) (by omega) ?_
        walk_at "wp"
        refine wp_fdivL (j := c) (by omega) ?_
        walk_at "wp"
        have q1 : (h.fdiv c).natAbs < 2 ^ V := Nat.lt_of_le_of_lt (fdiv_abs' (by omega)) hb0
        have q2 : (-(g.fdiv c)).natAbs < 2 ^ V := by rw [Int.natAbs_neg]; exact Nat.lt_of_le_of_lt (fdiv_abs' (by omega)) gb
        refine combined_ok (a := V) (b := b + (i + 1) * (V + 2)) (a' := V) (b' := b) q1 tb q2 rb (by omega) (by omega) (by omega) fun s4 k4 => ?_
        walk_at "wp"
        have gp4 := k4.at' _ _ (by simp) gp3
        have k4 := k3.trans k4
        refine wp_app gp4 (by rw [List.length_map]; omega) ?_
        have ex : us.map rowD ++ [rowD (cmb (h.fdiv c) t (-(g.fdiv c)) r)] = (us ++ [cmb (h.fdiv c) t (-(g.fdiv c)) r]).map rowD := by simp
        rw [ex]
        have gp5 := set_get gp4 (o := .lst ((us ++ [cmb (h.fdiv c) t (-(g.fdiv c)) r]).map rowD))
        have k5 : Kp [] st (s4.set p (.lst ((us ++ [cmb (h.fdiv c) t (-(g.fdiv c)) r]).map rowD))) := k4.set (.inl (by omega)) _
        generalize s4.set p (.lst ((us ++ [cmb (h.fdiv c) t (-(g.fdiv c)) r]).map rowD)) = s5 at gp5 k5 ⊢
        refine ws_par ?_
        walk_at "wp"
        refine combined_ok (a := V) (b := b + (i + 1) * (V + 2)) (a' := V) (b' := b) alb tb beb rb (by omega) (by omega) (by omega) fun s6 k6 => ?_
        walk_at "wp"
        have cb : ∀ {x y : Int}, x.natAbs < 2 ^ V → y.natAbs < 2 ^ V → ∀ j, (vf (cmb x t y r) j).natAbs < 2 ^ (b + (i + 1 + 1) * (V + 2)) := fun {x y} h1 h2 j => by
          rw [cmb_vf tv.1 hr]
          have a1 := big (Nat.le_of_lt h1) (Nat.le_of_lt (tb j))
          have a2 := big (Nat.le_of_lt h2) (Nat.le_of_lt (rb j))
          have a3 := Int.natAbs_add_le (x * vf t j) (y * vf r j)
          have a4 : (2 : Nat) ^ (b + (i + 1 + 1) * (V + 2)) = 4 * 2 ^ (V + (b + (i + 1) * (V + 2))) := by rw [hT, show b + ((i + 1) * (V + 2) + (V + 2)) = (V + (b + (i + 1) * (V + 2))) + 2 by omega, Nat.pow_add, Nat.mul_comm]
          have a5 : (2 : Nat) ^ (V + b) ≤ 2 ^ (V + (b + (i + 1) * (V + 2))) := Nat.pow_le_pow_right (by decide) (by omega)
          have := Nat.two_pow_pos (V + b)
          show (x * vf t j + y * vf r j).natAbs < _
          omega
        have eu := cmb_vf (f := h.fdiv c) (g := -(g.fdiv c)) tv.1 hr
        rw [fdiv_e cpos, fdiv_e cpos] at eu
        have M := P.more (r := r) (u := cmb (h.fdiv c) t (-(g.fdiv c)) r) (w := cmb al t be r) (c := c) (al := al) (be := be) (by rw [hh]; exact h0) cpos (by rw [hh]; exact B.lin) B.d1 (by rw [hh]; exact B.d2) (cmb_len tv.1 hr) (cmb_len tv.1 hr) (by rw [hh, ← eu, fdiv_e cpos, fdiv_e cpos]) (cmb_vf tv.1 hr)
        refine ⟨us ++ [cmb (h.fdiv c) t (-(g.fdiv c)) r], some (cmb al t be r), c, _, _, _, _, _, rfl, k5.trans k6, k6.at' _ _ (by simp) gp5, by simp; omega, by rw [eS]; exact M, fun u hu j => ?_, fun t' ht j => by cases ht; exact cb alb beb j, ?_⟩
        · rcases List.mem_append.mp hu with hu | hu
          · exact mono (ub u hu j)
          · rw [List.mem_singleton.mp hu]; exact cb q1 q2 j
        · have := Nat.le_of_dvd (by omega) (Int.natAbs_dvd_natAbs.mpr B.d2)
          omega
  · rintro env s1 ⟨us, top, g, w5, w6, w7, w8, w9, rfl, k, gp, hul, P, ub, tb, gb⟩
    rw [show (rs.map rowD, fun st' : Sto => seqOf st' (matD rs) = some (rs.map rowD)).1 = rs.map rowD from rfl, List.length_map] at *
    rw [List.take_length] at P
    have up : ∀ {x : Int}, x.natAbs < 2 ^ (b + (rs.length + 1) * (V + 2)) → x.natAbs < 2 ^ (b + 16 * (V + 2)) := fun hx => Nat.lt_of_lt_of_le hx (Nat.pow_le_pow_right (by decide) (by have : (rs.length + 1) * (V + 2) ≤ 16 * (V + 2) := Nat.mul_le_mul_right _ (by omega); omega))
    walk_at "wp"
    exact fin p us top g s1 P gp (by omega) hul (fun u hu j => up (ub u hu j)) (fun t ht j => up (tb t ht j)) gb k
end Lat

namespace Lat
open PySem PySem.Spec PyProof.Rows L2 Mir

local macro_rules | `(tactic| walk_at "wp") => `(tactic| repeat (first
  | with_reducible refine ws_seq ?_
  | with_reducible refine ws_set ?_
  | with_reducible refine ws_ret ?_
  | with_reducible refine ws_if ?_
  | with_reducible refine ws_setI ?_
  | with_reducible refine ws_expr ?_
  | with_reducible refine ws_nil ?_
  | with_reducible refine wp_var (by with_unfolding_all rfl) ?_
  | with_reducible refine wp_c ?_
  | with_reducible refine wp_op ?_
  | with_reducible refine wp_un ?_
  | with_reducible refine wp_and ?_
  | with_reducible refine wp_or ?_
  | with_reducible refine wp_not ?_
  | with_reducible refine wp_tst ?_
  | with_reducible refine wp_tand ?_
  | with_reducible refine wp_tor ?_
  | with_reducible refine wp_tnot ?_
  | with_reducible refine wp_chain ?_
  | with_reducible refine wp_ife ?_
  | with_reducible refine wa_nil ?_
  | with_reducible refine wa_cons ?_
  | with_reducible refine wp_lst ?_
  | with_reducible refine wp_tup ?_
  | with_reducible refine wp_new ?_
  | with_reducible refine wp_fn ?_
  | with_reducible refine wp_fn1 ?_
  | with_reducible refine wp_call ?_
  | with_reducible refine wp_lm ?_
  | with_reducible refine wp_slice ?_
  | with_reducible refine wo_none ?_
  | with_reducible refine wo_some ?_
  | with_reducible refine wi_seq ?_
  | with_reducible refine wi_enum ?_
  | with_reducible refine wi_rng1 ?_
  | with_reducible refine wi_rng2 ?_
  | with_reducible refine wi_zip ?_
  | with_reducible refine wp_addI ?_
  | with_reducible refine wp_subI ?_
  | with_reducible refine wp_negI ?_
  | with_reducible refine wp_gtI ?_
  | with_reducible refine wp_ltI ?_
  | with_reducible refine wp_geI ?_
  | with_reducible refine wp_leI ?_
  | with_reducible refine wp_eqF ?_
  | with_reducible refine wp_neF ?_
  | with_reducible refine ex_bl ?_
  | (with_reducible refine if_tt ?_)
  | (with_reducible refine if_ff ?_)
  | (with_reducible refine And.intro (show List.length (List.cons _ _) ≤ 1000000 by simp only [List.length_cons, List.length_nil]; decide) ?_)
  | (with_reducible refine And.intro (show List.length List.nil ≤ 1000000 by decide) ?_)
  | (with_reducible refine And.intro (show List.length (List.cons _ _) = _ from rfl) ?_)))



theorem RowsAt.obj {st : Sto} {p : Nat} {us : List (List Int)} (h : st[p]? = some (.lst (us.map rowD))) : RowsAt st (.obj p) us := ⟨us.map rowD, by simp only [seqOf, lstOf, h], by rw [List.length_map], fun i x hx => by
  rw [List.getElem?_map] at hx
  cases e : us[i]? with
  | none => rw [e] at hx; cases hx
  | some r =>
    rw [e] at hx
    cases hx
    rw [List.getD_eq_getElem?_getD, e]
    rfl⟩
theorem spn_iff {S T : Vf → Prop} (h1 : ∀ x, S x → Spn T x) (h2 : ∀ x, T x → Spn S x) (x : Vf) : Spn S x ↔ Spn T x := ⟨fun h => h.bind h1, fun h => h.bind h2⟩
/-- bits behind split_by -/
def sb (s b : Nat) : Nat := b + 16 * (s + b + 4 + 2) + 20
theorem restrict_ok {n b s m : Nat} {rs : List (List Int)} {f : List Int} {st : Sto} {Q : D → Sto → Prop} (n1 : 1 ≤ n) (hn : n ≤ 15) (B : IsB n rs) (hb : ∀ r ∈ rs, ∀ j, (vf r j).natAbs < 2 ^ b) (hf : f.length = n) (fb : ∀ j, (vf f j).natAbs < 2 ^ s) (hm : m < 2 ^ 20)
    (lim : (n + 4) * (Rb n (sb s b) + 2) < 134217000)
    (fin : ∀ rs' st', IsB n rs' → (∀ x, Spn (Rows rs') x ↔ (Spn (Rows rs) x ∧ (m : Int) ∣ dt n (vf f) x)) → Kp [] st st' → Q (matD rs') st') : Wp (hm_restrict [matD rs, rowD f, .int m]) st Q := by
  have hrs : rs.length ≤ 15 := Nat.le_trans B.count hn
  have lim2 : sb s b < 26843400 := by
    have h1 : 5 * (Rb n (sb s b) + 2) ≤ (n + 4) * (Rb n (sb s b) + 2) := Nat.mul_le_mul_right _ (by omega)
    have h2 : sb s b ≤ Rb n (sb s b) := by unfold Rb; omega
    omega
  have lim3 : s + b + 4 + b + 18 * (s + b + 4 + 2) < 134217000 := by unfold sb at lim2; omega
  refine ws_run ?_
  show Ws hb_restrict [some (matD rs), some (rowD f), some (.int m), none, none, none, none] st _ _ _ _
  unfold hb_restrict
  refine ws_seq (ws_setT ?_)
  walk_at "wp"
  refine split_ok (V := s + b + 4) hn hrs B.len hb hf fb rfl lim3 fun p us top g s1 P gp hp hul ub tb gb k1 => ?_
  refine ⟨_, rfl, ?_⟩
  walk_at "wp"
  refine if_bl (fun g0 => ?_) fun g0 => ?_
  · walk_at "wp"
    refine wl_map id ?_
    walk_at "wp"
    refine ⟨rs.map rowD, rfl, (by show (rs.map rowD).length ≤ _; rw [List.length_map]; omega), fun _ _ => rfl, fun d hd st2 k => ?_, fun st2 k2 g2 => ?_⟩
    · obtain ⟨r, hr, rfl⟩ := List.mem_map.mp hd
      refine ⟨_, rfl, ?_⟩
      walk_at "wp"
      exact wp_tuple (xs := r.map .int) rfl ⟨rfl, Kp.refl _ _⟩
    · walk_at "wp"
      refine wp_tuple (xs := rs.map rowD) (by simp only [seqOf, lstOf, g2]; simp) ?_
      refine fin rs _ B (fun x => ⟨fun h => ⟨h, ?_⟩, fun h => h.1⟩) (k1.trans k2)
      have : top = none := by
        cases top with
        | none => rfl
        | some t => have := (P.tl t rfl).2.2; omega
      subst this
      have : Spn (Rows us) x := h.bind fun y hy => (P.to y hy).mono fun z hz => by
        rcases hz with hz | ⟨t, ht, _⟩
        · exact hz
        · cases ht
      rw [dt_rows P.val this]
      exact Int.dvd_zero _
  · cases top with
    | none => exact absurd (P.no rfl) g0
    | some t =>
    have tv := P.tl t rfl
    have tb := tb t rfl
    walk_at "wp"
    have rest : ∀ (gs : List (List Int)) (k : Int) (s2 : Sto) (e6 : Option D), Kp [] st s2 → s2[p]? = some (.lst (gs.map rowD)) → (∀ q ∈ gs, q.length = n) → (∀ q ∈ gs, ∀ j, (vf q j).natAbs < 2 ^ sb s b) → (∀ c : Int, (m : Int) ∣ c * g ↔ k ∣ c) →
        (∀ x, Spn (Rows gs) x ↔ Spn (fun x => Rows us x ∨ x = fun j => k * vf t j) x) →
        Ws (sRet (eCall 2 hm_hermite [] (aCons (eVar 3) (aCons (eFn (fn1 lenD) (aCons (eVar 1) aNil)) aNil)))) [some (matD rs), some (rowD f), some (.int m), some (.obj p), some (topD (some t)), some (.int g), e6] s2 (fun _ => Q .non) Q (fun _ _ => False) (fun _ _ => False) := by
      intro gs k s2 e6 k2 gp2 hgl hgb hk hsp
      walk_at "wp"
      refine wp_len (xs := f.map .int) rfl ?_
      walk_at "wp"
      refine hermite_ok (b := sb s b) (RowsAt.obj gp2) n1 hn hgl hgb lim fun rs' s3 B' t1 t2 k3 => ?_
      refine fin rs' s3 B' (fun x => ?_) (k2.trans k3)
      rw [← P.cut hk x, ← hsp x]
      exact spn_iff t2 t1 x
    have up : ∀ {x : Int}, x.natAbs < 2 ^ (b + 16 * (s + b + 4 + 2)) → x.natAbs < 2 ^ sb s b := fun hx => Nat.lt_of_lt_of_le hx (Nat.pow_le_pow_right (by decide) (by unfold sb; omega))
    refine if_bl (fun hm0 => ?_) fun hm0 => ?_
    · walk_at "wp"
      have gp1 := gp
      refine ⟨by simp only [lstOf, gp1]; rfl, ?_⟩
      walk_at "wp"
      have p20 : (2 : Nat) ^ 20 ≤ 2 ^ (s + b + 4 + 20) := Nat.pow_le_pow_right (by decide) (by omega)
      have pg : (2 : Nat) ^ (s + b + 4) ≤ 2 ^ (s + b + 4 + 20) := Nat.pow_le_pow_right (by decide) (by omega)
      refine gcd_ok (xs := [(m : Int), g]) (s := s + b + 4 + 20) rfl (fun x hx => ?_) (by omega) (by omega) fun G s2 G0 Gd GP Gb k2 => ?_
      · rcases List.mem_cons.mp hx with rfl | hx
        · rw [Int.natAbs_natCast]; omega
        · rw [List.mem_singleton.mp hx]; omega
      have Gm := Gd m (by simp)
      have Gg := Gd g (by simp)
      have Gpos : 0 < G := Classical.byContradiction fun z => by
        have : G = 0 := by omega
        rw [this] at Gg
        have := Int.zero_dvd.mp Gg
        omega
      refine wp_fdivL (by omega) ?_
      walk_at "wp"
      rw [fdiv_e Gpos]
      obtain ⟨k, hk⟩ := Gm
      have ek : (m : Int) / G = k := by rw [hk]; exact Int.mul_ediv_cancel_left _ (by omega)
      rw [ek]
      have kb : k.natAbs < 2 ^ 20 := by
        have h1 : (m : Int).natAbs = G.natAbs * k.natAbs := by rw [hk, Int.natAbs_mul]
        rw [Int.natAbs_natCast] at h1
        have : 1 * k.natAbs ≤ G.natAbs * k.natAbs := Nat.mul_le_mul_right _ (by omega)
        omega
      refine scale_ok (a := 20) (b := b + 16 * (s + b + 4 + 2)) kb tb (by unfold sb at lim2; omega) (by rw [tv.1]; omega) fun s3 k3 => ?_
      walk_at "wp"
      have gp3 := k3.at' _ _ (by simp) (k2.at' _ _ (by simp) gp)
      refine wp_app gp3 (by rw [List.length_map]; omega) ?_
      have ex : us.map rowD ++ [rowD (t.map fun x => k * x)] = (us ++ [t.map fun x => k * x]).map rowD := by simp
      rw [ex]
      refine rest (us ++ [t.map fun x => k * x]) k _ _ (((k1.trans k2).trans k3).set (.inl hp) _) (set_get gp3) (fun q hq => ?_) (fun q hq j => ?_) (fun c => ⟨fun h => ?_, fun h => ?_⟩) fun x => ?_
      · rcases List.mem_append.mp hq with hq | hq
        · exact P.len q hq
        · rw [List.mem_singleton.mp hq, List.length_map]; exact tv.1
      · rcases List.mem_append.mp hq with hq | hq
        · exact up (ub q hq j)
        · rw [List.mem_singleton.mp hq, smul_vf]
          have h2 := Nat.mul_lt_mul'' kb (tb j)
          rw [← Int.natAbs_mul, ← Nat.pow_add] at h2
          have e : 20 + (b + 16 * (s + b + 4 + 2)) = sb s b := by unfold sb; omega
          rw [e] at h2
          exact h2
      · have h2 : (m : Int) ∣ c * G := GP (fun z => (m : Int) ∣ c * z) (by simp) (fun a b x y hx hy => by
          rw [Int.mul_add, Int.mul_left_comm c a, Int.mul_left_comm c b]
          exact Int.dvd_add (Int.dvd_mul_of_dvd_right hx) (Int.dvd_mul_of_dvd_right hy)) fun x hx => by
            rcases List.mem_cons.mp hx with rfl | hx
            · exact ⟨c, Int.mul_comm _ _⟩
            · rw [List.mem_singleton.mp hx]; exact h
        rw [hk, Int.mul_comm c G] at h2
        exact Int.dvd_of_mul_dvd_mul_left (by omega) h2
      · obtain ⟨g2, hg2⟩ := Gg
        obtain ⟨q, rfl⟩ := h
        rw [hk, hg2]
        exact ⟨q * g2, by rw [Int.mul_assoc, Int.mul_assoc, Int.mul_left_comm q G, Int.mul_left_comm k G]⟩
      · have : Rows (us ++ [t.map fun x => k * x]) = fun x => Rows us x ∨ x = fun j => k * vf t j := by
          funext y
          refine propext (Rows.snoc.trans ?_)
          rw [smul_vf]
        rw [this]
    · refine ws_nil ?_
      have m0 : m = 0 := by omega
      subst m0
      refine rest us 0 _ _ k1 gp P.len (fun q hq j => up (ub q hq j)) (fun c => ⟨fun h => ?_, fun h => ?_⟩) fun x => ⟨fun h => h.mono fun y hy => .inl hy, fun h => h.bind fun y hy => ?_⟩
      · have h1 : c * g = 0 := Int.zero_dvd.mp h
        rcases Int.mul_eq_zero.mp h1 with h1 | h1
        · rw [h1]; exact Int.dvd_refl 0
        · exact absurd h1 g0
      · rw [Int.zero_dvd.mp h]; simp
      · rcases hy with hy | rfl
        · exact .of hy
        · exact Spn.zero.cast fun j => by omega
end Lat

namespace Lat
open PySem PySem.Spec PyProof.Rows L2 Mir

local macro_rules | `(tactic| walk_at "wp") => `(tactic| repeat (first
  | with_reducible refine ws_seq ?_
  | with_reducible refine ws_set ?_
  | with_reducible refine ws_ret ?_
  | with_reducible refine ws_if ?_
  | with_reducible refine ws_setI ?_
  | with_reducible refine ws_expr ?_
  | with_reducible refine ws_nil ?_
  | with_reducible refine wp_var (by with_unfolding_all rfl) ?_
  | with_reducible refine wp_c ?_
  | with_reducible refine wp_op ?_
  | with_reducible refine wp_un ?_
  | with_reducible refine wp_and ?_
  | with_reducible refine wp_or ?_
  | with_reducible refine wp_not ?_
  | with_reducible refine wp_tst ?_
  | with_reducible refine wp_tand ?_
  | with_reducible refine wp_tor ?_
  | with_reducible refine wp_tnot ?_
  | with_reducible refine wp_chain ?_
  | with_reducible refine wp_ife ?_
  | with_reducible refine wa_nil ?_
  | with_reducible refine wa_cons ?_
  | with_reducible refine wp_lst ?_
  | with_reducible refine wp_tup ?_
  | with_reducible refine wp_new ?_
  | with_reducible refine wp_fn ?_
  | with_reducible refine wp_fn1 ?_
  | with_reducible refine wp_call ?_
  | with_reducible refine wp_lm ?_
  | with_reducible refine wp_slice ?_
  | with_reducible refine wo_none ?_
  | with_reducible refine wo_some ?_
  | with_reducible refine wi_seq ?_
  | with_reducible refine wi_enum ?_
  | with_reducible refine wi_rng1 ?_
  | with_reducible refine wi_rng2 ?_
  | with_reducible refine wi_zip ?_
  | with_reducible refine wp_addI ?_
  | with_reducible refine wp_subI ?_
  | with_reducible refine wp_negI ?_
  | with_reducible refine wp_gtI ?_
  | with_reducible refine wp_ltI ?_
  | with_reducible refine wp_geI ?_
  | with_reducible refine wp_leI ?_
  | with_reducible refine wp_eqF ?_
  | with_reducible refine wp_neF ?_
  | with_reducible refine ex_bl ?_
  | (with_reducible refine if_tt ?_)
  | (with_reducible refine if_ff ?_)
  | (with_reducible refine And.intro (show List.length (List.cons _ _) ≤ 1000000 by simp only [List.length_cons, List.length_nil]; decide) ?_)
  | (with_reducible refine And.intro (show List.length List.nil ≤ 1000000 by decide) ?_)
  | (with_reducible refine And.intro (show List.length (List.cons _ _) = _ from rfl) ?_)))



theorem pivot_okV {dx : D} {xs : List Int} {st : Sto} {Q : D → Sto → Prop} (vx : RowV dx xs) (q : Q (pvD xs) st) : Wp (hm_pivot_of [dx]) st Q := by
  refine ws_run ?_
  show Ws hb_pivot_of [some dx, none, none] st _ _ _ _
  unfold hb_pivot_of
  refine ws_seq (ws_for (enumL (xs.map .int), fun st' => seqOf st' dx = some (xs.map .int)) (fun i env s => ∃ u v, env = [some dx, u, v] ∧ s = st ∧ ∀ j < i, xs.getD j 0 = 0) ?_ ?_ ?_ ?_)
  · walk_at "wp"
    exact ⟨_, vx.seq _, rfl, _, _, rfl, rfl, fun j h => absurd h (Nat.not_lt_zero _)⟩
  · rintro i env s ⟨u, v, rfl, rfl, _⟩
    exact vx.seq _
  · rintro i d env s hd ⟨u, v, rfl, rfl, hz⟩
    obtain ⟨x, hx, rfl⟩ := enumL_get hd
    rw [List.getElem?_map] at hx
    cases e : xs[i]? with
    | none => rw [e] at hx; cases hx
    | some y =>
      rw [e] at hx
      cases hx
      have hi := (List.getElem?_eq_some_iff.mp e).1
      have hy : xs.getD i 0 = y := by rw [List.getD_eq_getElem?_getD, e]; rfl
      refine ⟨_, rfl, ?_⟩
      walk_at "wp"
      refine if_bl (fun h0 => ?_) fun h0 => ?_
      · walk_at "wp"
        have : pvD xs = .int (i : Nat) := by
          have := pv_eq hi (by rw [hy]; exact h0) hz
          simp only [pvD, this, hi, if_true]
        rw [← this]
        exact q
      · walk_at "wp"
        refine ⟨_, _, rfl, rfl, fun j hj => ?_⟩
        by_cases hji : j = i
        · subst hji
          rw [hy]
          exact Decidable.not_not.mp h0
        · exact hz j (by omega)
  · rintro env s ⟨u, v, rfl, rfl, hz⟩
    walk_at "wp"
    have hz' : ∀ j < xs.length, xs.getD j 0 = 0 := fun j hj => hz j (by rw [enumL_len, List.length_map]; exact hj)
    have : pvD xs = .non := by simp only [pvD, pv_none hz', if_false]
    rw [← this]
    exact q
theorem pivot_ok {xs : List Int} {st : Sto} {Q : D → Sto → Prop} (q : Q (pvD xs) st) : Wp (hm_pivot_of [rowD xs]) st Q := pivot_okV (.row xs) q
theorem pvD_zero {xs : List Int} (h : ∀ j, vf xs j = 0) : pvD xs = .non := by
  have : ¬ Mir.pv xs < xs.length := pv_none fun j _ => h j
  simp only [pvD, this, if_false]
theorem pvD_some {xs : List Int} {j : Nat} (h : vf xs j ≠ 0) : ∃ i : Int, pvD xs = .int i := by
  have hj : j < xs.length := Classical.byContradiction fun z => h (getD_ge (by omega))
  have : Mir.pv xs < xs.length := by
    have l : Mir.pv xs ≤ j := Classical.byContradiction fun z => h (pv_zero (by omega))
    omega
  exact ⟨(Mir.pv xs : Nat), by simp only [pvD, this, if_true]⟩
/-- found: the factors, and the vector is their sum; or the vector is not in the span -/
theorem coordinates_okV {dm dv : D} {n b t : Nat} {rs : List (List Int)} {v : List Int} {st : Sto} {Q : D → Sto → Prop} (hm : MatV dm rs) (hdv : RowV dv v) (hn : n ≤ 15) (B : IsB n rs) (hb : ∀ r ∈ rs, ∀ j, (vf r j).natAbs < 2 ^ b) (hv : v.length = n) (vb : ∀ j, (vf v j).natAbs < 2 ^ t) (lim : t + n * (b + 1) + b + 2 < 134217000)
    (fin : ∀ d st', (∃ fs : List Int, d = .tup (fs.map .int) ∧ fs.length = rs.length ∧ (∀ j, vf v j = sm rs.length fun i => fs.getD i 0 * vf (rs.getD i []) j) ∧ Spn (Rows rs) (vf v)) ∨ (d = .non ∧ ¬ Spn (Rows rs) (vf v)) → Kp [] st st' → Q d st') : Wp (hm_coordinates [dm, dv]) st Q := by
  have hrs := B.count
  obtain ⟨ds, hds, vds⟩ := hm.items
  refine ws_run ?_
  show Ws hb_coordinates [some dm, some dv, none, none, none, none] st _ _ _ _
  unfold hb_coordinates
  walk_at "wp"
  have k0 : Kp [] st (st ++ [.lst []]) := Kp.app _ _ _
  have g0 : (st ++ [O.lst []])[st.length]? = some (.lst []) := app_get
  have hp : st.length ≤ st.length := Nat.le_refl _
  generalize st ++ [O.lst []] = s0 at k0 g0 ⊢
  generalize hpe : st.length = p at g0 ⊢
  refine ws_for (ds, fun st' => seqOf st' dm = some ds)
    (fun i env s' => ∃ (u : List Int) (fs : List Int) (du : D) (w3 w4 w5 : Option D), RowV du u ∧ env = [some dm, some du, some (.obj p), w3, w4, w5] ∧ Kp [] st s' ∧ s'[p]? = some (.lst (fs.map .int)) ∧ u.length = n ∧ fs.length = i ∧ (∀ j, vf v j = vf u j + sm i fun k => fs.getD k 0 * vf (rs.getD k []) j) ∧
      Spn (Rows rs) (fun j => vf v j - vf u j) ∧ (Spn (Rows rs) (vf v) → ∀ k < i, ∀ j ≤ Mir.pv (rs.getD k []), vf u j = 0) ∧ ∀ j, (vf u j).natAbs < 2 ^ (t + i * (b + 1))) ?_ ?_ ?_ ?_
  · walk_at "wp"
    exact ⟨_, hds _, rfl, v, [], dv, _, _, _, hdv, rfl, k0, g0, hv, rfl, fun j => by simp [sm], Spn.zero.cast fun j => by omega, fun _ k hk => absurd hk (Nat.not_lt_zero _), fun j => by simpa using vb j⟩
  · rintro i env s' _
    exact hds _
  · rintro i d env s1 hd ⟨u, fs, du, w3, w4, w5, vu, rfl, k, gp, hu, hfl, hsum, hsp, hz, ub⟩
    obtain ⟨r, er, hgd, vr⟩ := vds.get hd
    have hi := (List.getElem?_eq_some_iff.mp er).1
    have hrm : r ∈ rs := List.mem_of_getElem? er
    have hr := B.len r hrm
    have hpr := B.piv r hrm
    have rpos := IsB.pp B hrm
    have hin : (i + 1) * (b + 1) ≤ n * (b + 1) := Nat.mul_le_mul_right _ (by omega)
    have hin2 : (i + 1) * (b + 1) = i * (b + 1) + (b + 1) := by rw [Nat.add_mul, Nat.one_mul]
    refine ⟨_, rfl, ?_⟩
    walk_at "wp"
    refine pivot_okV vr ?_
    have epv : pvD r = .int (Mir.pv r) := by simp only [pvD, show Mir.pv r < r.length by omega, if_true]
    rw [epv]
    walk_at "wp"
    refine vu.ix (by omega) ?_
    walk_at "wp"
    refine vr.ix (by omega) ?_
    have hd0 : r.getD (Mir.pv r) 0 ≠ 0 := by have : 0 < r.getD (Mir.pv r) 0 := rpos; omega
    refine wp_fdivL hd0 ?_
    walk_at "wp"
    generalize hq : (u.getD (Mir.pv r) 0).fdiv (r.getD (Mir.pv r) 0) = q
    have qb : q.natAbs < 2 ^ (t + i * (b + 1)) := by rw [← hq]; exact Nat.lt_of_le_of_lt (fdiv_abs' hd0) (ub _)
    refine combined_okV vu vr (a := 1) (b := t + i * (b + 1)) (a' := t + i * (b + 1)) (b' := b) (by decide) ub (by rw [Int.natAbs_neg]; exact qb) (hb r hrm) (by omega) (by omega) (by omega) fun s2 k2 => ?_
    have gp2 := k2.at' _ _ (by simp) gp
    have k2 := k.trans k2
    have hvj : ∀ j, vf (cmb 1 u (-q) r) j = vf u j - q * vf r j := fun j => by
      rw [cmb_vf hu hr]
      show 1 * vf u j + -q * vf r j = _
      rw [Int.neg_mul]
      omega
    walk_at "wp"
    refine ⟨by simp only [lstOf, gp2]; rfl, ?_⟩
    walk_at "wp"
    refine wp_app gp2 (by rw [List.length_map]; omega) ?_
    have ex : fs.map D.int ++ [D.int q] = (fs ++ [q]).map D.int := by simp
    rw [ex]
    have hsum' : ∀ j, vf v j = vf (cmb 1 u (-q) r) j + sm (i + 1) fun k => (fs ++ [q]).getD k 0 * vf (rs.getD k []) j := fun j => by
      rw [hvj]
      show _ = _ + (sm i (fun k => (fs ++ [q]).getD k 0 * vf (rs.getD k []) j) + (fs ++ [q]).getD i 0 * vf (rs.getD i []) j)
      have e1 : sm i (fun k => (fs ++ [q]).getD k 0 * vf (rs.getD k []) j) = sm i fun k => fs.getD k 0 * vf (rs.getD k []) j := sm_congr fun k hk => by rw [getD_app_l (by omega)]
      have e2 : (fs ++ [q]).getD i 0 = q := by rw [← hfl]; exact getD_app_e
      rw [e1, e2, hgd, hsum j]
      omega
    have hsp' : Spn (Rows rs) fun j => vf v j - vf (cmb 1 u (-q) r) j := (hsp.plus ((Spn.of (S := Rows rs) ⟨r, hrm, rfl⟩).mul q)).cast fun j => by rw [hvj]; omega
    refine ⟨cmb 1 u (-q) r, fs ++ [q], _, _, _, _, .row _, rfl, k2.set (.inl (by omega)) _, set_get gp2, cmb_len hu hr, by simp [hfl], hsum', hsp', fun hin' => ?_, fun j => ?_⟩
    · have uS : Spn (Rows rs) (vf u) := (hin'.sub hsp).cast fun j => by omega
      have uz : ∀ j < Mir.pv r, vf u j = 0 := by
        intro j
        induction j using Nat.strongRecOn with
        | _ j ih =>
          intro hj
          cases e : ofB rs j with
          | none => exact (ech_lead (IsB.ech B) (uS.mono fun y h => (IsB.er B).mpr h) fun j' hj' => ih j' hj' (by omega)).2 e
          | some w =>
            obtain ⟨w', hw', ep, rfl⟩ := ofB_some e
            obtain ⟨k', hk', ek⟩ := IsB.at' B hw'
            have : k' < i := Classical.byContradiction fun z => by
              by_cases e2 : k' = i
              · rw [e2, hgd] at ek
                subst ek
                omega
              · have := IsB.lt B (show i < k' by omega) hk'
                rw [hgd, ek] at this
                omega
            exact hz hin' k' this j (by rw [ek]; omega)
      have dv := (ech_lead (IsB.ech B) (uS.mono fun y h => (IsB.er B).mpr h) uz).1 _ (IsB.of B hrm)
      have zero : vf (cmb 1 u (-q) r) (Mir.pv r) = 0 := by
        rw [hvj]
        obtain ⟨m, hm⟩ := dv
        have : q = m := by
          rw [← hq]
          show (vf u (Mir.pv r)).fdiv (vf r (Mir.pv r)) = m
          rw [fdiv_e rpos]
          show vf u (Mir.pv r) / vf r (Mir.pv r) = m
          rw [hm]
          exact Int.mul_ediv_cancel_left _ (by omega)
        rw [this, hm, Int.mul_comm]
        omega
      intro k' hk' j hj
      by_cases e : k' = i
      · subst e
        rw [hgd] at hj
        by_cases e2 : j = Mir.pv r
        · rw [e2]; exact zero
        · rw [hvj, uz j (by omega), IsB.pz j (by omega)]
          simp
      · have lt := IsB.lt B (show k' < i by omega) hi
        rw [hgd] at lt
        rw [hvj, uz j (by omega), IsB.pz j (by omega)]
        simp
    · rw [hvj]
      have b1 := ub j
      have b2 := big (Nat.le_of_lt qb) (Nat.le_of_lt (hb r hrm j))
      have b3 := Int.natAbs_sub_le (vf u j) (q * vf r j)
      have b4 : (2 : Nat) ^ (t + (i + 1) * (b + 1)) = 2 * 2 ^ (t + i * (b + 1) + b) := by rw [hin2, show t + (i * (b + 1) + (b + 1)) = (t + i * (b + 1) + b) + 1 by omega, Nat.pow_succ, Nat.mul_comm]
      have b5 : (2 : Nat) ^ (t + i * (b + 1)) ≤ 2 ^ (t + i * (b + 1) + b) := Nat.pow_le_pow_right (by decide) (by omega)
      omega
  · rintro env s1 ⟨u, fs, du, w3, w4, w5, vu, rfl, k, gp, hu, hfl, hsum, hsp, hz, ub⟩
    rw [show (ds, fun st' : Sto => seqOf st' dm = some ds).1 = ds from rfl, vds.1] at *
    walk_at "wp"
    refine pivot_okV vu ?_
    walk_at "wp"
    by_cases hin : ∀ j, vf u j = 0
    · rw [pvD_zero hin]
      refine ⟨_, _, rfl, false, rfl, if_ff ?_⟩
      walk_at "wp"
      refine wp_tuple (xs := fs.map .int) (by simp only [seqOf, lstOf, gp]) ?_
      exact fin _ s1 (.inl ⟨fs, rfl, hfl, fun j => by rw [hsum j, hin j]; omega, hsp.cast fun j => by rw [hin j]; omega⟩) k
    · obtain ⟨j, hj⟩ := Classical.not_forall.mp hin
      obtain ⟨x, ex⟩ := pvD_some hj
      rw [ex]
      refine ⟨_, _, rfl, true, rfl, if_tt ?_⟩
      walk_at "wp"
      refine fin _ s1 (.inr ⟨rfl, fun hS => hin ?_⟩) k
      have uS : Spn (Rows rs) (vf u) := (hS.sub hsp).cast fun j => by omega
      refine ech_zero (IsB.ech B) (uS.mono fun y h => (IsB.er B).mpr h) fun c x hx _ => ?_
      obtain ⟨w', hw', ep, rfl⟩ := ofB_some hx
      obtain ⟨k', hk', ek⟩ := IsB.at' B hw'
      exact hz hS k' hk' c (by rw [ek]; omega)
theorem coordinates_ok {n b t : Nat} {rs : List (List Int)} {v : List Int} {st : Sto} {Q : D → Sto → Prop} (hn : n ≤ 15) (B : IsB n rs) (hb : ∀ r ∈ rs, ∀ j, (vf r j).natAbs < 2 ^ b) (hv : v.length = n) (vb : ∀ j, (vf v j).natAbs < 2 ^ t) (lim : t + n * (b + 1) + b + 2 < 134217000)
    (fin : ∀ d st', (∃ fs : List Int, d = .tup (fs.map .int) ∧ fs.length = rs.length ∧ (∀ j, vf v j = sm rs.length fun i => fs.getD i 0 * vf (rs.getD i []) j) ∧ Spn (Rows rs) (vf v)) ∨ (d = .non ∧ ¬ Spn (Rows rs) (vf v)) → Kp [] st st' → Q d st') : Wp (hm_coordinates [matD rs, rowD v]) st Q := coordinates_okV (.mat rs) (.row v) hn B hb hv vb lim fin
end Lat

namespace Lat
open PySem PySem.Spec PyProof.Rows L2 Mir

local macro_rules | `(tactic| walk_at "wp") => `(tactic| repeat (first
  | with_reducible refine ws_seq ?_
  | with_reducible refine ws_set ?_
  | with_reducible refine ws_ret ?_
  | with_reducible refine ws_if ?_
  | with_reducible refine ws_setI ?_
  | with_reducible refine ws_expr ?_
  | with_reducible refine ws_nil ?_
  | with_reducible refine wp_var (by with_unfolding_all rfl) ?_
  | with_reducible refine wp_c ?_
  | with_reducible refine wp_op ?_
  | with_reducible refine wp_un ?_
  | with_reducible refine wp_and ?_
  | with_reducible refine wp_or ?_
  | with_reducible refine wp_not ?_
  | with_reducible refine wp_tst ?_
  | with_reducible refine wp_tand ?_
  | with_reducible refine wp_tor ?_
  | with_reducible refine wp_tnot ?_
  | with_reducible refine wp_chain ?_
  | with_reducible refine wp_ife ?_
  | with_reducible refine wa_nil ?_
  | with_reducible refine wa_cons ?_
  | with_reducible refine wp_lst ?_
  | with_reducible refine wp_tup ?_
  | with_reducible refine wp_new ?_
  | with_reducible refine wp_fn ?_
  | with_reducible refine wp_fn1 ?_
  | with_reducible refine wp_call ?_
  | with_reducible refine wp_lm ?_
  | with_reducible refine wp_slice ?_
  | with_reducible refine wo_none ?_
  | with_reducible refine wo_some ?_
  | with_reducible refine wi_seq ?_
  | with_reducible refine wi_enum ?_
  | with_reducible refine wi_rng1 ?_
  | with_reducible refine wi_rng2 ?_
  | with_reducible refine wi_zip ?_
  | with_reducible refine wp_addI ?_
  | with_reducible refine wp_subI ?_
  | with_reducible refine wp_negI ?_
  | with_reducible refine wp_gtI ?_
  | with_reducible refine wp_ltI ?_
  | with_reducible refine wp_geI ?_
  | with_reducible refine wp_leI ?_
  | with_reducible refine wp_eqF ?_
  | with_reducible refine wp_neF ?_
  | with_reducible refine ex_bl ?_
  | (with_reducible refine if_tt ?_)
  | (with_reducible refine if_ff ?_)
  | (with_reducible refine And.intro (show List.length (List.cons _ _) ≤ 1000000 by simp only [List.length_cons, List.length_nil]; decide) ?_)
  | (with_reducible refine And.intro (show List.length List.nil ≤ 1000000 by decide) ?_)
  | (with_reducible refine And.intro (show List.length (List.cons _ _) = _ from rfl) ?_)))



noncomputable def inS (rs : List (List Int)) (x : Vf) : Bool := @decide (Spn (Rows rs) x) (Classical.propDecidable _)
theorem inS_true {rs : List (List Int)} {x : Vf} (h : Spn (Rows rs) x) : inS rs x = true := @decide_eq_true _ (Classical.propDecidable _) h
theorem inS_false {rs : List (List Int)} {x : Vf} (h : ¬ Spn (Rows rs) x) : inS rs x = false := @decide_eq_false _ (Classical.propDecidable _) h
theorem contains_okV {dm dv : D} {n b t : Nat} {rs : List (List Int)} {v : List Int} {st : Sto} {Q : D → Sto → Prop} (hm : MatV dm rs) (hdv : RowV dv v) (hn : n ≤ 15) (B : IsB n rs) (hb : ∀ r ∈ rs, ∀ j, (vf r j).natAbs < 2 ^ b) (hv : v.length = n) (vb : ∀ j, (vf v j).natAbs < 2 ^ t) (lim : t + n * (b + 1) + b + 2 < 134217000)
    (fin : ∀ st', Kp [] st st' → Q (.bl (inS rs (vf v))) st') : Wp (hm_contains [dm, dv]) st Q := by
  refine ws_run ?_
  show Ws hb_contains [some dm, some dv] st _ _ _ _
  unfold hb_contains
  walk_at "wp"
  refine coordinates_okV hm hdv hn B hb hv vb lim fun d s1 h k => ?_
  walk_at "wp"
  rcases h with ⟨fs, rfl, _, _, hS⟩ | ⟨rfl, hS⟩
  · have := fin s1 k
    rw [inS_true hS] at this
    exact ⟨_, _, rfl, this⟩
  · have := fin s1 k
    rw [inS_false hS] at this
    exact ⟨_, _, rfl, this⟩
theorem contains_ok {n b t : Nat} {rs : List (List Int)} {v : List Int} {st : Sto} {Q : D → Sto → Prop} (hn : n ≤ 15) (B : IsB n rs) (hb : ∀ r ∈ rs, ∀ j, (vf r j).natAbs < 2 ^ b) (hv : v.length = n) (vb : ∀ j, (vf v j).natAbs < 2 ^ t) (lim : t + n * (b + 1) + b + 2 < 134217000)
    (fin : ∀ st', Kp [] st st' → Q (.bl (inS rs (vf v))) st') : Wp (hm_contains [matD rs, rowD v]) st Q := contains_okV (.mat rs) (.row v) hn B hb hv vb lim fin
theorem includes_okV {dm dv : D} {n b t : Nat} {rs vs : List (List Int)} {st : Sto} {Q : D → Sto → Prop} (hm : MatV dm rs) (hdv : MatV dv vs) (hn : n ≤ 15) (B : IsB n rs) (hb : ∀ r ∈ rs, ∀ j, (vf r j).natAbs < 2 ^ b) (hv : ∀ v ∈ vs, v.length = n) (vb : ∀ v ∈ vs, ∀ j, (vf v j).natAbs < 2 ^ t) (hvl : vs.length ≤ 1000000) (lim : t + n * (b + 1) + b + 2 < 134217000)
    (fin : ∀ st', Kp [] st st' → Q (.bl (vs.all fun v => inS rs (vf v))) st') : Wp (hm_includes [dm, dv]) st Q := by
  refine ws_run ?_
  show Ws hb_includes [some dm, some dv, none] st _ _ _ _
  unfold hb_includes
  walk_at "wp"
  obtain ⟨ds, hds, vds⟩ := hdv.items
  refine wl_map (fun d => match d with | .tup ds => (match asInts ds with | some v => .bl (inS rs (vf v)) | none => .non) | .lst ds => (match asInts ds with | some v => .bl (inS rs (vf v)) | none => .non) | _ => .non) ?_
  walk_at "wp"
  have each : ∀ i x, ds[i]? = some x → ∃ v, vs[i]? = some v ∧ v ∈ vs ∧ RowV x v := fun i x hx => by
    obtain ⟨v, h1, _, h2⟩ := vds.get hx
    exact ⟨v, h1, List.mem_of_getElem? h1, h2⟩
  have fx : ∀ {x : D} {v : List Int}, RowV x v → (match x with | .tup ds => (match asInts ds with | some v => D.bl (inS rs (vf v)) | none => .non) | .lst ds => (match asInts ds with | some v => .bl (inS rs (vf v)) | none => .non) | _ => .non) = .bl (inS rs (vf v)) := fun {x v} h => by
    rcases h with rfl | rfl <;> simp only [asInts_ints]
  refine ⟨ds, hds _, (by show ds.length ≤ _; rw [vds.1]; omega), fun _ _ => hds _, fun d hd st2 k => ?_, fun s2 k2 g2 => ?_⟩
  · obtain ⟨i, hi, rfl⟩ := List.getElem_of_mem hd
    obtain ⟨v, _, hvm, hx⟩ := each i _ (List.getElem?_eq_getElem hi)
    refine ⟨_, rfl, ?_⟩
    walk_at "wp"
    refine contains_okV hm hx hn B hb (hv v hvm) (vb v hvm) lim fun s3 k3 => ⟨?_, k3⟩
    exact (fx hx).symm
  · walk_at "wp"
    refine wp_allF (fun v : List Int => inS rs (vf v)) (ys := vs) ?_ (fin _ k2)
    simp only [lstOf, g2]
    refine congrArg some (List.ext_getElem? fun i => ?_)
    rw [List.getElem?_map, List.getElem?_map]
    cases e : ds[i]? with
    | none =>
      have : vs[i]? = none := by
        rw [List.getElem?_eq_none_iff] at e ⊢
        rw [← vds.1]; exact e
      rw [this]
      rfl
    | some x =>
      obtain ⟨v, h1, _, hx⟩ := each i x e
      rw [h1]
      exact congrArg some (fx hx)
theorem includes_ok {n b t : Nat} {rs vs : List (List Int)} {st : Sto} {Q : D → Sto → Prop} (hn : n ≤ 15) (B : IsB n rs) (hb : ∀ r ∈ rs, ∀ j, (vf r j).natAbs < 2 ^ b) (hv : ∀ v ∈ vs, v.length = n) (vb : ∀ v ∈ vs, ∀ j, (vf v j).natAbs < 2 ^ t) (hvl : vs.length ≤ 1000000) (lim : t + n * (b + 1) + b + 2 < 134217000)
    (fin : ∀ st', Kp [] st st' → Q (.bl (vs.all fun v => inS rs (vf v))) st') : Wp (hm_includes [matD rs, matD vs]) st Q := includes_okV (.mat rs) (.mat vs) hn B hb hv vb hvl lim fin
theorem grain_ok {n b s : Nat} {rs : List (List Int)} {f : List Int} {st : Sto} {Q : D → Sto → Prop} (hn : n ≤ 15) (hrs : rs.length ≤ 1000) (hl : ∀ r ∈ rs, r.length = n) (hb : ∀ r ∈ rs, ∀ j, (vf r j).natAbs < 2 ^ b) (hf : f.length = n) (fb : ∀ j, (vf f j).natAbs < 2 ^ s) (lim : 2 * (s + b + 4) < 134217000)
    (fin : ∀ g st', 0 ≤ g → (∀ r ∈ rs, g ∣ dt n (vf f) (vf r)) → (∀ P : Int → Prop, P 0 → (∀ a b x y, P x → P y → P (a * x + b * y)) → (∀ r ∈ rs, P (dt n (vf f) (vf r))) → P g) → g.natAbs < 2 ^ (s + b + 4) → Kp [] st st' → Q (.int g) st') : Wp (hm_grain_of [matD rs, rowD f]) st Q := by
  refine ws_run ?_
  show Ws hb_grain_of [some (matD rs), some (rowD f), none] st _ _ _ _
  unfold hb_grain_of
  walk_at "wp"
  refine wl_map (fun d => match d with | .tup ds => (match asInts ds with | some v => .int (dt n (vf f) (vf v)) | none => .non) | _ => .non) ?_
  walk_at "wp"
  refine ⟨rs.map rowD, rfl, (by show (rs.map rowD).length ≤ _; rw [List.length_map]; omega), fun _ _ => rfl, fun d hd st2 k => ?_, fun s2 k2 g2 => ?_⟩
  · obtain ⟨v, hvm, rfl⟩ := List.mem_map.mp hd
    refine ⟨_, rfl, ?_⟩
    walk_at "wp"
    refine dot_ok (IntsAt.row _ f) (IntsAt.row _ v) hf (hl v hvm) (by omega) fb (hb v hvm) (by omega) fun s3 k3 => ⟨?_, k3⟩
    simp only [rowD, asInts_ints]
  · walk_at "wp"
    refine gcd_ok (xs := rs.map fun r => dt n (vf f) (vf r)) (s := s + b + 4) ?_ (fun x hx => ?_) (by omega) lim fun g s3 g0 gd gP gb k3 => ?_
    · unfold IntsAt
      simp only [seqOf, lstOf, g2, List.map_map]
      refine congrArg some (List.map_congr_left fun v _ => ?_)
      simp only [Function.comp, rowD, asInts_ints]
    · obtain ⟨r, hr, rfl⟩ := List.mem_map.mp hx
      exact dt_abs hn fb (hb r hr)
    · exact fin g s3 g0 (fun r hr => gd _ (List.mem_map.mpr ⟨r, hr, rfl⟩)) (fun P h0 hc hP => gP P h0 hc fun x hx => by
        obtain ⟨r, hr, rfl⟩ := List.mem_map.mp hx
        exact hP r hr) gb (k2.trans k3)
end Lat

namespace Lat
open PySem PySem.Spec PyProof.Rows L2 Mir

noncomputable def hb__law_draw : SM := (sSeq (sSetI (eOp addD (eOp ixD (eVar 0) (eC (.int 2))) (eC (.int 1))) (eVar 0) (eC (.int 2))) (sSeq (sIf (tAndM (tst (eOp (eqD false) (eOp ixD (eVar 0) (eC (.int 1))) (eC (.int 0)))) (tst (eOp (eqD true) (eOp ixD (eVar 0) (eC (.int 0))) (eLst aNil)))) (sSeq (sSetI (eLM (fun d ds => fn1 (popD d) ds) (eOp ixD (eVar 0) (eC (.int 0))) (aCons (eC (.int 0)) aNil)) (eVar 0) (eC (.int 1))) (sIf (tst (eOp ltD (eOp ixD (eVar 0) (eC (.int 1))) (eOp powD (eC (.int 10)) (eC (.int 18))))) (sSeq (sSetI (eOp modD (eOp addD (eOp mulD (eOp ixD (eVar 0) (eC (.int 3))) (eC (.int 39373))) (eOp ixD (eVar 0) (eC (.int 1)))) (eC (.int 2147483647))) (eVar 0) (eC (.int 3))) (sSetI (eC (.int 0)) (eVar 0) (eC (.int 1)))) sNil)) sNil) (sSeq (sIf (tst (eOp gtD (eOp ixD (eVar 0) (eC (.int 1))) (eC (.int 0)))) (sSeq (sSet (.name 2) (eOp modD (eOp ixD (eVar 0) (eC (.int 1))) (eVar 1))) (sSeq (sSetI (eOp fdivD (eOp ixD (eVar 0) (eC (.int 1))) (eVar 1)) (eVar 0) (eC (.int 1))) (sRet (eVar 2)))) sNil) (sSeq (sSet (.name 2) (eOp modD (eOp powD (eOp addD (eOp addD (eOp ixD (eVar 0) (eC (.int 3))) (eOp mulD (eC (.int 7919)) (eOp ixD (eVar 0) (eC (.int 2))))) (eC (.int 104729))) (eC (.int 5))) (eC (.int 2147483647)))) (sRet (eOp modD (eOp modD (eOp mulD (eOp addD (eVar 2) (eOp ixD (eVar 0) (eC (.int 2)))) (eC (.int 48271))) (eC (.int 2147483629))) (eVar 1)))))))
noncomputable def hm__law_draw : List D → M D := runB 3 hb__law_draw
noncomputable def hb__law_plus : SM := (sRet (eFn (fn1 tupleD) (aCons (eLC (itZip (eVar 1) (eVar 2)) (.tup [(.name 3), (.name 4)]) (fun _ => pure true) (eOp addD (eOp mulD (eVar 0) (eVar 3)) (eVar 4)) [3, 4]) aNil)))
noncomputable def hm__law_plus : List D → M D := runB 5 hb__law_plus
noncomputable def hb__law_size : SM := (sRet (eOp ixD (eLst (aCons (eC (.int 1)) (aCons (eC (.int 2)) (aCons (eC (.int 3)) (aCons (eC (.int 4)) (aCons (eC (.int 2)) (aCons (eC (.int 3)) (aCons (eC (.int 4)) (aCons (eC (.int 7)) aNil))))))))) (eCall 2 hm__law_draw [] (aCons (eVar 0) (aCons (eC (.int 8)) aNil)))))
noncomputable def hm__law_size : List D → M D := runB 1 hb__law_size
noncomputable def hb__law_basis : SM := (sSeq (sSet (.name 2) (eLst (aCons (eC (.int 1)) (aCons (eC (.int 1)) (aCons (eC (.int 2)) (aCons (eC (.int 3)) (aCons (eC (.int 4)) (aCons (eC (.int 6)) (aCons (eC (.int 12)) (aCons (eC (.int 35)) (aCons (eC (.int 1000003)) (aCons (eOp powD (eC (.int 10)) (eC (.int 40))) aNil)))))))))))) (sSeq (sSet (.name 3) (eLC (itR1 (eVar 1)) (.name 5) (tst (eOp gtD (eCall 2 hm__law_draw [] (aCons (eVar 0) (aCons (eC (.int 4)) aNil))) (eC (.int 0)))) (eVar 5) [5])) (sSeq (sSet (.name 4) (eNew aNil)) (sSeq (sFor (itSeq (eVar 3)) (.name 5) (sSeq (sSet (.name 7) (eOp addN (eOp repD (eLst (aCons (eC (.int 0)) aNil)) (eVar 5)) (eLst (aCons (eOp ixD (eVar 2) (eCall 2 hm__law_draw [] (aCons (eVar 0) (aCons (eC (.int 10)) aNil)))) aNil)))) (sSeq (sWhile (tst (eOp ltD (eFn (fn1 lenD) (aCons (eVar 7) aNil)) (eVar 1))) (sExpr (eLM (fun d ds => fn1 (appD d) ds) (eVar 7) (aCons (eOp ixD (eLst (aCons (eC (.int 0)) (aCons (eOp subD (eCall 2 hm__law_draw [] (aCons (eVar 0) (aCons (eC (.int 7)) aNil))) (eC (.int 3))) (aCons (eCall 2 hm__law_draw [] (aCons (eVar 0) (aCons (eOp powD (eC (.int 10)) (eC (.int 20))) aNil))) aNil)))) (eCall 2 hm__law_draw [] (aCons (eVar 0) (aCons (eC (.int 3)) aNil)))) aNil)))) (sExpr (eLM (fun d ds => fn1 (appD d) ds) (eVar 4) (aCons (eFn (fn1 tupleD) (aCons (eVar 7) aNil)) aNil)))))) (sSeq (sFor (itEnum (eVar 3)) (.tup [(.name 6), (.name 5)]) (sFor (itR1 (eVar 6)) (.name 8) (sSeq (sSet (.name 9) (eOp fdivL (eOp ixD (eOp ixD (eVar 4) (eVar 8)) (eVar 5)) (eOp ixD (eOp ixD (eVar 4) (eVar 6)) (eVar 5)))) (sSetI (eCall 3 hm__law_plus [] (aCons (eOp subD (eC (.int 0)) (eVar 9)) (aCons (eOp ixD (eVar 4) (eVar 6)) (aCons (eOp ixD (eVar 4) (eVar 8)) aNil)))) (eVar 4) (eVar 8))))) (sRet (eFn (fn1 tupleD) (aCons (eVar 4) aNil))))))))
noncomputable def hm__law_basis : List D → M D := runB 10 hb__law_basis

local macro_rules | `(tactic| walk_at "wp") => `(tactic| repeat (first
  | with_reducible refine ws_seq ?_
  | with_reducible refine ws_set ?_
  | with_reducible refine ws_ret ?_
  | with_reducible refine ws_if ?_
  | with_reducible refine ws_setI ?_
  | with_reducible refine ws_expr ?_
  | with_reducible refine ws_nil ?_
  | with_reducible refine wp_var (by with_unfolding_all rfl) ?_
  | with_reducible refine wp_c ?_
  | with_reducible refine wp_op ?_
  | with_reducible refine wp_un ?_
  | with_reducible refine wp_and ?_
  | with_reducible refine wp_or ?_
  | with_reducible refine wp_not ?_
  | with_reducible refine wp_tst ?_
  | with_reducible refine wp_tand ?_
  | with_reducible refine wp_tor ?_
  | with_reducible refine wp_tnot ?_
  | with_reducible refine wp_chain ?_
  | with_reducible refine wp_ife ?_
  | with_reducible refine wa_nil ?_
  | with_reducible refine wa_cons ?_
  | with_reducible refine wp_lst ?_
  | with_reducible refine wp_tup ?_
  | with_reducible refine wp_new ?_
  | with_reducible refine wp_fn ?_
  | with_reducible refine wp_fn1 ?_
  | with_reducible refine wp_call ?_
  | with_reducible refine wp_lm ?_
  | with_reducible refine wp_slice ?_
  | with_reducible refine wo_none ?_
  | with_reducible refine wo_some ?_
  | with_reducible refine wi_seq ?_
  | with_reducible refine wi_enum ?_
  | with_reducible refine wi_rng1 ?_
  | with_reducible refine wi_rng2 ?_
  | with_reducible refine wi_zip ?_
  | with_reducible refine wp_addI ?_
  | with_reducible refine wp_subI ?_
  | with_reducible refine wp_negI ?_
  | with_reducible refine wp_gtI ?_
  | with_reducible refine wp_ltI ?_
  | with_reducible refine wp_geI ?_
  | with_reducible refine wp_leI ?_
  | with_reducible refine wp_eqF ?_
  | with_reducible refine wp_neF ?_
  | with_reducible refine ex_bl ?_
  | (with_reducible refine if_tt ?_)
  | (with_reducible refine if_ff ?_)))





/-! ### what laws draw -/
theorem draw {a b k : Nat} {st : Sto} {n : Int} {Q : D → Sto → Prop} (h : Strm a b k st) (hk : k < 2 ^ 40) (hn : 0 < n) (hl : n.natAbs < 2 ^ 200) (q : ∀ (i : Int) (st' : Sto), 0 ≤ i → i < n → Strm a b (k + 1) st' → Kp [a, b] st st' → Q (.int i) st') : Wp (hm__law_draw [.obj a, .int n]) st Q := by
  refine Wp.mono (draw_ok h hk hn (Nat.lt_of_le_of_lt (log2_le (k := 200) (Nat.lt_trans hl (by decide))) (by decide))) ?_
  rintro d st' ⟨i, rfl, h1, h2, h3, h4⟩
  exact q i st' h1 h2 h3 h4
theorem plus_ok {f : Int} {one other : List Int} {e1 e2 : Nat} {st : Sto} {Q : D → Sto → Prop} (hf : f.natAbs < 2 ^ e1) (ho : ∀ a ∈ one, a.natAbs < 2 ^ e2) (he : e1 + e2 < 134217000) (hl : one.length ≤ 1000000)
    (q : ∀ st', Kp [] st st' → Q (rowD (List.zipWith (fun a b => f * a + b) one other)) st') : Wp (hm__law_plus [.int f, rowD one, rowD other]) st Q := by
  refine ws_run ?_
  show Ws hb__law_plus [some (.int f), some (rowD one), some (rowD other), none, none] st _ _ _ _
  unfold hb__law_plus
  walk_at "wp"
  refine wl_map (fun d => match d with | .tup [.int a, .int b] => .int (f * a + b) | _ => .non) ?_
  walk_at "wp"
  refine ⟨one.map .int, other.map .int, rfl, rfl, ?_, fun _ _ => ⟨rfl, rfl⟩, fun d hd st2 k => ?_, fun st1 k1 g => ?_⟩
  · show (zipL (one.map .int) (other.map .int)).length ≤ 1000000
    rw [zipL_ints, List.length_zipWith]
    omega
  · replace hd : d ∈ zipL (one.map .int) (other.map .int) := hd
    rw [zipL_ints] at hd
    obtain ⟨i, hi, rfl⟩ := List.getElem_of_mem hd
    rw [List.getElem_zipWith]
    refine ⟨_, rfl, ?_⟩
    walk_at "wp"
    refine wp_mulI ?_ ?_
    · have h1 := log2_le (i := f) (k := e1) (Nat.lt_trans hf (Nat.pow_lt_pow_right (by decide) (Nat.lt_succ_self _)))
      have h2 := log2_le (i := one[i]'(by rw [List.length_zipWith] at hi; omega)) (k := e2) (Nat.lt_trans (ho _ (List.getElem_mem _)) (Nat.pow_lt_pow_right (by decide) (Nat.lt_succ_self _)))
      omega
    walk_at "wp"
    exact ⟨rfl, Kp.refl _ _⟩
  · walk_at "wp"
    refine wp_tuple (xs := (List.zipWith (fun a b => f * a + b) one other).map .int) ?_ (q _ k1)
    simp only [seqOf, lstOf, g, zipL_ints, List.map_zipWith]
/-- the columns -/
theorem basis_ok {a b k n : Nat} {st : Sto} {Q : D → Sto → Prop} (h : Strm a b k st) (hk : k < 2 ^ 30) (hn : n ≤ 12)
    (fin : ∀ rs k' st', IsB n rs → (∀ r ∈ rs, ∀ j, (vf r j).natAbs < 2 ^ max 133 (68 * n)) → Strm a b k' st' → k' ≤ k + 1000 → Kp [a, b] st st' → Q (matD rs) st') : Wp (hm__law_basis [.obj a, .int n]) st Q := by
  refine ws_run ?_
  show Ws hb__law_basis [some (.obj a), some (.int n), none, none, none, none, none, none, none, none] st _ _ _ _
  unfold hb__law_basis
  walk_at "wp"
  refine wp_powI (by decide) ?_
  walk_at "wp"
  refine ⟨by decide, ?_⟩
  have hmenu : ∀ i : Int, 0 ≤ i → i < 10 → ∃ m : Int, atI [D.int 1, .int 1, .int 2, .int 3, .int 4, .int 6, .int 12, .int 35, .int 1000003, .int (10 ^ Int.toNat 40)] i = some (.int m) ∧ 0 < m ∧ m.natAbs < 2 ^ 133 := fun i h0 h1 => by
    have : i = 0 ∨ i = 1 ∨ i = 2 ∨ i = 3 ∨ i = 4 ∨ i = 5 ∨ i = 6 ∨ i = 7 ∨ i = 8 ∨ i = 9 := by omega
    rcases this with rfl | rfl | rfl | rfl | rfl | rfl | rfl | rfl | rfl | rfl <;> exact ⟨_, rfl, by decide, by decide⟩
  generalize [D.int 1, .int 1, .int 2, .int 3, .int 4, .int 6, .int 12, .int 35, .int 1000003, .int (10 ^ Int.toNat 40)] = menu at hmenu ⊢
  walk_at "wp"
  refine (wp_lc (mi := itR1 (eVar 1)) (src := (rngL 0 n, fun _ => True)) (st1 := st) ?_ (fun i acc s => ∃ cols : List Nat, acc = cols.map (fun c : Nat => D.int c) ∧ cols.Pairwise (· < ·) ∧ (∀ c ∈ cols, c < i) ∧ Strm a b (k + i) s ∧ Kp [a, b] st s ∧ s[st.length]? = some (.lst acc) ∧ cols.length ≤ i) ?_ ?_ ?_).mono ?_
  · obtain ⟨s1, st1, e1, e2, e3⟩ : Wp (itR1 (eVar 1) ([some (.obj a), some (.int n), none, none, none, none, none, none, none, none].set 2 (some (.lst menu)))) st fun s st' => s = (rngL 0 n, fun _ => True) ∧ st' = st := by
      walk_at "wp"
      exact ⟨n, rfl, by omega, by omega, rfl, rfl⟩
    rw [e2, e3] at e1
    exact e1
  · exact ⟨[], rfl, by simp, by simp, h.app _, Kp.app _ _ _, app_get, Nat.le_refl _⟩
  · exact fun _ _ _ _ => trivial
  · rintro i d acc s hd ⟨cols, rfl, asc, hc, S, K, g, hcl⟩
    obtain ⟨rfl, hi⟩ := rngL_get hd
    refine ⟨_, rfl, ?_⟩
    walk_at "wp"
    refine ⟨rfl, draw S (by omega) (by decide) (by decide) fun v s1 hv1 hv2 S1 K1 => ?_⟩
    walk_at "wp"
    have g1 := K1.at' _ _ (h.nin (Nat.le_refl _)) g
    refine if_bl (fun hv => ?_) fun hv => ?_
    · walk_at "wp"
      refine ⟨g1, by rw [List.length_map]; omega, cols ++ [i], by simp, ?_, ?_, S1.set (h.nin (Nat.le_refl _)) _, (K.trans K1).set (.inl (Nat.le_refl _)) _, ?_, by simpa using hcl⟩
      · rw [List.pairwise_append]
        exact ⟨asc, by simp, fun x hx y hy => by
          have : y = i := by simpa using hy
          have := hc x hx
          omega⟩
      · intro c hcm
        rcases List.mem_append.mp hcm with hcm | hcm
        · have := hc c hcm
          omega
        · have : c = i := by simpa using hcm
          omega
      · rw [Int.zero_add]
        exact set_get g1
    · exact ⟨cols, rfl, asc, fun c hcm => Nat.lt_succ_of_lt (hc c hcm), S1, K.trans K1, g1, Nat.le_succ_of_le hcl⟩
  rintro d s ⟨rfl, acc, cols, rfl, asc, hc, S, K, g, hcl⟩
  rw [show (rngL 0 (n : Int), fun _ : Sto => True).1 = rngL 0 n from rfl, rngL_len, Int.sub_zero, Int.toNat_natCast] at *
  have hp : st.length ∉ [a, b] := h.nin (Nat.le_refl _)
  generalize st.length = p at *
  walk_at "wp"
  refine ⟨by decide, ?_⟩
  have hq : s.length ∉ [a, b] := S.nin (Nat.le_refl _)
  have hpq : p ≠ s.length := by have := (List.getElem?_eq_some_iff.mp g).1; omega
  have hap : p ∉ [a, b] := hp
  have S1 := S.app (.lst [])
  have K1 : Kp [a, b] st (s ++ [.lst []]) := K.trans (Kp.app _ _ _)
  have g1 : (s ++ [O.lst []])[p]? = some (.lst (cols.map fun c : Nat => D.int c)) := (Kp.app [] s (.lst [])).at' _ _ (by simp) g
  have gq : (s ++ [O.lst []])[s.length]? = some (.lst []) := app_get
  generalize s ++ [O.lst []] = s1 at S1 K1 g1 gq ⊢
  generalize hqe : s.length = q at *
  have hlq : st.length ≤ q := by rw [← hqe]; exact K.len
  walk_at "wp"
  refine ws_for (cols.map fun c : Nat => D.int c, fun st' => seqOf st' (.obj p) = some (cols.map fun c : Nat => D.int c))
    (fun i env s => ∃ (u5 u6 u7 u8 u9 : Option D) (rs : List (List Int)) (k' : Nat), env = [some (.obj a), some (.int n), some (.lst menu), some (.obj p), some (.obj q), u5, u6, u7, u8, u9] ∧ Strm a b k' s ∧ k' ≤ k + n + 50 * i ∧ Kp [a, b] st s ∧
      s[p]? = some (.lst (cols.map fun c : Nat => D.int c)) ∧ s[q]? = some (.lst (rs.map rowD)) ∧ rs.length = i ∧ (∀ h < i, (rs.getD h []).length = n) ∧ (∀ h < i, ∀ c < cols.getD h 0, ent rs h c = 0) ∧ (∀ h < i, 0 < ent rs h (cols.getD h 0)) ∧ (∀ h c, (ent rs h c).natAbs < 2 ^ 133) ∧ ∀ h c, c ≠ cols.getD h 0 → (ent rs h c).natAbs < 2 ^ 67) ?_ ?_ ?_ ?_
  · walk_at "wp"
    exact ⟨_, by simp only [seqOf, lstOf, g1], rfl, _, _, _, _, _, [], k + n, rfl, S1, by omega, K1, g1, gq, rfl, fun h hh => absurd hh (Nat.not_lt_zero _), fun h hh => absurd hh (Nat.not_lt_zero _), fun h hh => absurd hh (Nat.not_lt_zero _), fun h c => (by decide : (0 : Int).natAbs < 2 ^ 133), fun h c _ => (by decide : (0 : Int).natAbs < 2 ^ 67)⟩
  · rintro i env s ⟨u5, u6, u7, u8, u9, rs, k', rfl, _, _, _, g, _⟩
    simp only [seqOf, lstOf, g]
  · rintro i d env s hd ⟨u5, u6, u7, u8, u9, rs, k', rfl, S, hk', K, g, gq, hrl, hr1, hr2, hr3, hr4, hr5⟩
    rw [List.getElem?_map] at hd
    cases ec : cols[i]? with
    | none => rw [ec] at hd; cases hd
    | some c =>
    rw [ec] at hd
    cases hd
    have hi := (List.getElem?_eq_some_iff.mp ec).1
    have hci : cols.getD i 0 = c := by rw [List.getD_eq_getElem?_getD, ec]; rfl
    have hcn : c < n := hc c (List.mem_of_getElem? ec)
    refine ⟨_, rfl, ?_⟩
    walk_at "wp"
    refine ⟨by decide, ?_⟩
    walk_at "wp"
    refine wp_rep (by omega) (by simp; omega) (by omega) ?_
    walk_at "wp"
    refine ⟨rfl, draw S (by omega) (by decide) (by decide) fun v s1 hv1 hv2 S1 K1 => ?_⟩
    obtain ⟨m, em, hm1, hm2⟩ := hmenu v hv1 hv2
    refine wp_ixL rfl em ?_
    walk_at "wp"
    refine ⟨by simp, ?_⟩
    refine wp_addN (xs := List.replicate c (.int 0)) (ys := [.int m]) (by simp only [lstOf, rep1, Int.toNat_natCast]) rfl (by simp; omega) ?_
    have e0 : List.replicate c (D.int 0) ++ [D.int m] = (List.replicate c 0 ++ [m]).map D.int := by simp
    rw [e0]
    have ht : s1.length ∉ [a, b] := S1.nin (Nat.le_refl _)
    have g1 := K1.at' _ _ hap g
    have gq1 := K1.at' _ _ hq gq
    have hpt : p ≠ s1.length := by have := (List.getElem?_eq_some_iff.mp g1).1; omega
    have hqt : q ≠ s1.length := by have := (List.getElem?_eq_some_iff.mp gq1).1; omega
    have S2 := S1.app (.lst ((List.replicate c 0 ++ [m]).map D.int))
    have K2 : Kp [a, b] st (s1 ++ [.lst ((List.replicate c 0 ++ [m]).map D.int)]) := (K.trans K1).trans (Kp.app _ _ _)
    have gt : (s1 ++ [O.lst ((List.replicate c 0 ++ [m]).map D.int)])[s1.length]? = _ := app_get
    have g2 := (Kp.app [] s1 (.lst ((List.replicate c 0 ++ [m]).map D.int))).at' _ _ (by simp) g1
    have gq2 := (Kp.app [] s1 (.lst ((List.replicate c 0 ++ [m]).map D.int))).at' _ _ (by simp) gq1
    have hlt' : st.length ≤ s1.length := (K.trans K1).len
    generalize s1 ++ [O.lst ((List.replicate c 0 ++ [m]).map D.int)] = s2 at S2 K2 gt g2 gq2 ⊢
    generalize s1.length = t at *
    clear S1 K1 g1 gq1 e0
    walk_at "wp"
    refine ws_while (fun env s => ∃ (u8 u9 : Option D) (xs : List Int) (k2 : Nat), env = [some (.obj a), some (.int n), some (.lst menu), some (.obj p), some (.obj q), some (.int c), u6, some (.obj t), u8, u9] ∧ Strm a b k2 s ∧ k2 ≤ k' + 1 + 3 * xs.length ∧ Kp [a, b] st s ∧
        s[p]? = some (.lst (cols.map fun c : Nat => D.int c)) ∧ s[q]? = some (.lst (rs.map rowD)) ∧ s[t]? = some (.lst (xs.map D.int)) ∧ xs.length ≤ n ∧ c < xs.length ∧ (∀ j < c, xs.getD j 0 = 0) ∧ 0 < xs.getD c 0 ∧ (∀ j, (xs.getD j 0).natAbs < 2 ^ 133) ∧ ∀ j, j ≠ c → (xs.getD j 0).natAbs < 2 ^ 67)
      (fun env s => match s[t]? with | some (.lst l) => n - l.length | _ => 0) ?_ ?_
    · have hx : ∀ j, (List.replicate c (0 : Int) ++ [m]).getD j 0 = if j = c then m else 0 := fun j => by
        by_cases h1 : j < c
        · rw [if_neg (by omega), List.getD_eq_getElem?_getD, List.getElem?_append_left (by simpa using h1), List.getElem?_replicate, if_pos h1]
          rfl
        · by_cases h2 : j = c
          · subst h2
            rw [if_pos rfl]
            have := getD_app_e (xs := List.replicate j (0 : Int)) (y := m) (d := 0)
            rwa [List.length_replicate] at this
          · rw [if_neg h2, getD_ge (by simp; omega)]
      refine ⟨_, _, _, k' + 1, rfl, S2, by omega, K2, g2, gq2, gt, by simp; omega, by simp, fun j hj => ?_, ?_, fun j => ?_, fun j hj => by rw [hx, if_neg hj]; decide⟩
      · rw [hx, if_neg (by omega)]
      · rw [hx, if_pos rfl]; exact hm1
      · rw [hx]
        split
        · exact hm2
        · decide
    · rintro env s ⟨u8, u9, xs, k2, rfl, S, hk2, K, g, gq, gt, hx1, hx2, hx3, hx4, hx5, hx6⟩
      walk_at "wp"
      refine wp_len (xs := xs.map D.int) (by simp only [seqOf, lstOf, gt]) ?_
      walk_at "wp"
      rw [List.length_map]
      refine if_bl (fun hlt => ?_) fun hlt => ?_
      · walk_at "wp"
        refine ⟨by simp only [lstOf, gt]; rfl, ?_⟩
        walk_at "wp"
        refine ⟨rfl, draw S (by omega) (by decide) (by decide) fun v1 s1 hv1 hv2 S1 K1 => ?_⟩
        walk_at "wp"
        refine wp_powI (by decide) ?_
        walk_at "wp"
        refine ⟨rfl, draw S1 (by omega) (by decide) (by decide) fun v2 s2 hw1 hw2 S2 K2 => ?_⟩
        walk_at "wp"
        refine ⟨by simp, ?_⟩
        walk_at "wp"
        refine ⟨rfl, draw S2 (by omega) (by decide) (by decide) fun v3 s3 hz1 hz2 S3 K3 => ?_⟩
        have K4 := (K1.trans K2).trans K3
        have gt3 := K4.at' _ _ ht gt
        have hv : ∃ w : Int, atI [D.int 0, .int (v1 - 3), .int v2] v3 = some (.int w) ∧ w.natAbs < 2 ^ 67 := by
          have : v3 = 0 ∨ v3 = 1 ∨ v3 = 2 := by omega
          have h20 : (10 : Int) ^ Int.toNat 20 = 100000000000000000000 := by decide
          rcases this with rfl | rfl | rfl
          · exact ⟨_, rfl, by decide⟩
          · exact ⟨_, rfl, by omega⟩
          · exact ⟨_, rfl, by omega⟩
        obtain ⟨w, ew, hw⟩ := hv
        refine wp_ixL rfl ew ?_
        walk_at "wp"
        refine wp_app gt3 (by rw [List.length_map]; omega) ?_
        have ex : xs.map D.int ++ [D.int w] = (xs ++ [w]).map D.int := by simp
        rw [ex]
        refine ⟨⟨_, _, xs ++ [w], k2 + 1 + 1 + 1, rfl, S3.set ht _, by simp; omega, (K.trans K4).set (.inl hlt') _, set_get_ne (Ne.symm hpt) (K4.at' _ _ hap g), set_get_ne (Ne.symm hqt) (K4.at' _ _ hq gq), set_get gt3, by simp; omega, by simp; omega, fun j hj => ?_, ?_, fun j => ?_, fun j hj => ?_⟩, ?_⟩
        · rw [getD_app_l (by omega)]; exact hx3 j hj
        · rw [getD_app_l hx2]; exact hx4
        · by_cases h1 : j < xs.length
          · rw [getD_app_l h1]; exact hx5 j
          · by_cases h2 : j = xs.length
            · subst h2; rw [getD_app_e]; exact Nat.lt_trans hw (by decide)
            · rw [getD_ge (by simp; omega)]; decide
        · by_cases h1 : j < xs.length
          · rw [getD_app_l h1]; exact hx6 j hj
          · by_cases h2 : j = xs.length
            · subst h2; rw [getD_app_e]; exact hw
            · rw [getD_ge (by simp; omega)]; decide
        · simp only [set_get gt3, gt, List.length_map, List.length_append, List.length_singleton]
          omega
      · have hxn : xs.length = n := by omega
        walk_at "wp"
        refine ⟨by simp only [lstOf, gq]; rfl, ?_⟩
        walk_at "wp"
        refine wp_tuple (xs := xs.map D.int) (by simp only [seqOf, lstOf, gt]) ?_
        walk_at "wp"
        refine wp_app gq (by rw [List.length_map]; omega) ?_
        have ex : rs.map rowD ++ [D.tup (xs.map D.int)] = (rs ++ [xs]).map rowD := by simp [rowD]
        rw [ex]
        have hE : ∀ h c, ent (rs ++ [xs]) h c = if h = i then xs.getD c 0 else ent rs h c := fun h c => by
          unfold ent
          by_cases h1 : h < rs.length
          · rw [getD_app_l h1, if_neg (by omega)]
          · by_cases h2 : h = i
            · rw [if_pos h2, h2, ← hrl, getD_app_e]
            · rw [if_neg h2, getD_ge (xs := rs ++ [xs]) (by simp; omega), getD_ge (xs := rs) (by omega)]
        refine ⟨_, _, _, _, _, rs ++ [xs], k2, rfl, S.set hq _, by omega, K.set (.inl hlq) _, set_get_ne (Ne.symm hpq) g, set_get gq, by simp; omega, fun h hh => ?_, fun h hh c' hc' => ?_, fun h hh => ?_, fun h c' => ?_, fun h c' hc' => ?_⟩
        · by_cases h1 : h < i
          · rw [getD_app_l (by omega)]; exact hr1 h h1
          · have : h = rs.length := by omega
            subst this
            rw [getD_app_e]; exact hxn
        · rw [hE]
          split
          · rename_i e
            subst e
            rw [hci] at hc'
            exact hx3 c' hc'
          · exact hr2 h (by omega) c' hc'
        · rw [hE]
          split
          · rename_i e
            subst e
            rw [hci]
            exact hx4
          · exact hr3 h (by omega)
        · rw [hE]
          split
          · exact hx5 c'
          · exact hr4 h c'
        · rw [hE]
          split
          · rename_i e
            rw [e, hci] at hc'
            exact hx6 c' hc'
          · exact hr5 h c' hc'
  rintro env s2 ⟨u5, u6, u7, u8, u9, rs, k', rfl, S, hk', K, g, gq, hrl, hr1, hr2, hr3, hr4, hr5⟩
  rw [List.length_map] at *
  have R0 : Red n cols 133 0 0 rs := ⟨hrl, fun h hh => hr1 h (by omega), fun h hh => hr2 h (by omega), fun h hh => hr3 h (by omega), fun g hg => absurd hg (Nat.not_lt_zero _), fun h hh => absurd hh (Nat.not_lt_zero _), fun h _ => hr4 h, fun h hh => absurd hh (Nat.not_lt_zero _), fun h hh => absurd hh (Nat.not_lt_zero _)⟩
  have U0 : RedB cols 133 67 0 0 rs := ⟨fun h _ => hr4 h _, fun h _ => hr5 h, fun h hh => absurd hh (Nat.not_lt_zero _), fun h hh => absurd hh (Nat.not_lt_zero _)⟩
  clear hr1 hr2 hr3 hr4 hr5 hrl
  have hcl : cols.length ≤ 12 := by omega
  have hk2 : k' ≤ k + 1000 := by omega
  walk_at "wp"
  refine ws_for (enumL (cols.map fun c : Nat => D.int c), fun st' => seqOf st' (.obj p) = some (cols.map fun c : Nat => D.int c))
    (fun i env s => ∃ (u5 u6 u7 u8 u9 : Option D) (rs : List (List Int)), env = [some (.obj a), some (.int n), some (.lst menu), some (.obj p), some (.obj q), u5, u6, u7, u8, u9] ∧ Strm a b k' s ∧ Kp [a, b] st s ∧
      s[p]? = some (.lst (cols.map fun c : Nat => D.int c)) ∧ s[q]? = some (.lst (rs.map rowD)) ∧ Red n cols 133 i 0 rs ∧ RedB cols 133 67 i 0 rs) ?_ ?_ ?_ ?_
  · walk_at "wp"
    exact ⟨_, by simp only [seqOf, lstOf, g], rfl, _, _, _, _, _, rs, rfl, S, K, g, gq, R0, U0⟩
  · rintro i env s ⟨u5, u6, u7, u8, u9, rs, rfl, _, _, g, _⟩
    simp only [seqOf, lstOf, g]
  · rintro i d env s hd ⟨u5, u6, u7, u8, u9, rs, rfl, S, K, g, gq, R, U⟩
    obtain ⟨x, hx, rfl⟩ := enumL_get hd
    rw [List.getElem?_map] at hx
    cases ec : cols[i]? with
    | none => rw [ec] at hx; cases hx
    | some c =>
    rw [ec] at hx
    cases hx
    have hi := (List.getElem?_eq_some_iff.mp ec).1
    have hci : cols.getD i 0 = c := by rw [List.getD_eq_getElem?_getD, ec]; rfl
    have hcn : c < n := hc c (List.mem_of_getElem? ec)
    refine ⟨_, rfl, ?_⟩
    refine ws_for (rngL 0 (i : Nat), fun _ => True)
      (fun j env s => ∃ (u7 u8 u9 : Option D) (rs : List (List Int)), env = [some (.obj a), some (.int n), some (.lst menu), some (.obj p), some (.obj q), some (.int c), some (.int i), u7, u8, u9] ∧ Strm a b k' s ∧ Kp [a, b] st s ∧
        s[p]? = some (.lst (cols.map fun c : Nat => D.int c)) ∧ s[q]? = some (.lst (rs.map rowD)) ∧ Red n cols 133 i j rs ∧ RedB cols 133 67 i j rs) ?_ ?_ ?_ ?_
    · walk_at "wp"
      exact ⟨i, rfl, by omega, by omega, rfl, _, _, _, rs, rfl, S, K, g, gq, R, U⟩
    · exact fun _ _ _ _ => trivial
    · rintro j d env s hd ⟨u7, u8, u9, rs, rfl, S, K, g, gq, R, U⟩
      obtain ⟨rfl, hj⟩ := rngL_get hd
      rw [Int.zero_add] at *
      have hji : j < i := by omega
      have hil : i < rs.length := by rw [R.len]; exact hi
      have hjl : j < rs.length := by omega
      have rj : (rs.map rowD)[j]? = some (rowD (rs.getD j [])) := by rw [List.getElem?_map, List.getD_eq_getElem?_getD, List.getElem?_eq_getElem hjl]; rfl
      have ri : (rs.map rowD)[i]? = some (rowD (rs.getD i [])) := by rw [List.getElem?_map, List.getD_eq_getElem?_getD, List.getElem?_eq_getElem hil]; rfl
      have sq : seqOf s (.obj q) = some (rs.map rowD) := by simp only [seqOf, lstOf, gq]
      have hp0 := R.pos i hil
      have hb0 := R.bnd0 i (Nat.le_refl _)
      rw [hci] at hp0
      refine ⟨_, rfl, ?_⟩
      walk_at "wp"
      refine wp_ixL sq (atI_at rj) ?_
      walk_at "wp"
      refine wp_ixR (by rw [R.row j hjl]; exact hcn) ?_
      walk_at "wp"
      refine wp_ixL sq (atI_at ri) ?_
      walk_at "wp"
      refine wp_ixR (by rw [R.row i hil]; exact hcn) ?_
      refine wp_fdivL (i := ent rs j c) (j := ent rs i c) (by omega) ?_
      walk_at "wp"
      refine wp_ixL sq (atI_at ri) ?_
      walk_at "wp"
      refine wp_ixL sq (atI_at rj) ?_
      walk_at "wp"
      refine ⟨rfl, plus_ok (e1 := 134 * (i + 1)) (e2 := 133) ?_ ?_ (by omega) (by rw [R.row i hil]; omega) fun s1 K1 => ?_⟩
      · rw [Int.zero_sub, Int.natAbs_neg]
        exact Nat.lt_of_le_of_lt (fdiv_abs hp0) (R.bnd2 j hji (Nat.le_refl _) c)
      · intro x hx
        obtain ⟨c', hc', rfl⟩ := mem_getD (d := 0) hx
        exact hb0 c'
      walk_at "wp"
      have gq1 := K1.at' _ _ (by simp) gq
      refine wp_setD gq1 (j := j) (by unfold ixN; rw [if_pos (by omega), if_pos (by rw [List.length_map]; omega), Int.toNat_natCast]) ?_
      rw [← List.map_set]
      refine ⟨_, _, _, _, rfl, (S.kp K1).set hq _, (K.trans (K1.more (by simp))).set (.inl hlq) _, set_get_ne (Ne.symm hpq) (K1.at' _ _ (by simp) g), set_get gq1, ?_, ?_⟩
      · exact R.step asc hji hil _ (by rw [hci])
      · exact U.step R asc hji hil _ (by rw [hci])
    · rintro env s ⟨u7, u8, u9, rs, rfl, S, K, g, gq, R, U⟩
      rw [show (rngL 0 ((i : Nat) : Int), fun _ : Sto => True).1 = rngL 0 i from rfl, rngL_len, Int.sub_zero, Int.toNat_natCast] at R U
      exact ⟨_, _, _, _, _, rs, rfl, S, K, g, gq, R.next, U.next⟩
  rintro env s ⟨u5, u6, u7, u8, u9, rs, rfl, S, K, g, gq, R, U⟩
  rw [show (enumL (cols.map fun c : Nat => D.int c), fun st' => seqOf st' (.obj p) = some (cols.map fun c : Nat => D.int c)).1 = enumL (cols.map fun c : Nat => D.int c) from rfl, enumL_len, List.length_map] at R U
  walk_at "wp"
  refine wp_tuple (xs := rs.map rowD) (by simp only [seqOf, lstOf, gq]) ?_
  refine fin rs k' s (R.isB asc hc) (fun r hr j => ?_) S hk2 K
  obtain ⟨h, hh, rfl⟩ := mem_getD (d := []) hr
  refine Nat.lt_of_lt_of_le (U.all R asc hh j) (Nat.pow_le_pow_right (by decide) ?_)
  have : (67 + 1) * cols.length ≤ 68 * n := Nat.mul_le_mul_left _ (by
    have := asc_len (lo := 0) asc fun x hx => ⟨Nat.zero_le _, hc x hx⟩
    omega)
  omega

local macro_rules | `(tactic| walk_at "wp") => `(tactic| repeat (first
  | with_reducible refine ws_seq ?_
  | with_reducible refine ws_set ?_
  | with_reducible refine ws_ret ?_
  | with_reducible refine ws_if ?_
  | with_reducible refine ws_setI ?_
  | with_reducible refine ws_expr ?_
  | with_reducible refine ws_nil ?_
  | with_reducible refine wp_var (by with_unfolding_all rfl) ?_
  | with_reducible refine wp_c ?_
  | with_reducible refine wp_op ?_
  | with_reducible refine wp_un ?_
  | with_reducible refine wp_and ?_
  | with_reducible refine wp_or ?_
  | with_reducible refine wp_not ?_
  | with_reducible refine wp_tst ?_
  | with_reducible refine wp_tand ?_
  | with_reducible refine wp_tor ?_
  | with_reducible refine wp_tnot ?_
  | with_reducible refine wp_chain ?_
  | with_reducible refine wp_ife ?_
  | with_reducible refine wa_nil ?_
  | with_reducible refine wa_cons ?_
  | with_reducible refine wp_lst ?_
  | with_reducible refine wp_tup ?_
  | with_reducible refine wp_new ?_
  | with_reducible refine wp_fn ?_
  | with_reducible refine wp_fn1 ?_
  | with_reducible refine wp_fn2 ?_
  | with_reducible refine wp_call ?_
  | with_reducible refine wp_lm ?_
  | with_reducible refine wp_slice ?_
  | with_reducible refine wo_none ?_
  | with_reducible refine wo_some ?_
  | with_reducible refine wi_seq ?_
  | with_reducible refine wi_enum ?_
  | with_reducible refine wi_rng1 ?_
  | with_reducible refine wi_rng2 ?_
  | with_reducible refine wi_zip ?_
  | with_reducible refine wp_addI ?_
  | with_reducible refine wp_subI ?_
  | with_reducible refine wp_negI ?_
  | with_reducible refine wp_gtI ?_
  | with_reducible refine wp_ltI ?_
  | with_reducible refine wp_geI ?_
  | with_reducible refine wp_leI ?_
  | with_reducible refine wp_eqF ?_
  | with_reducible refine wp_neF ?_
  | with_reducible refine ex_bl ?_
  | (with_reducible refine if_tt ?_)
  | (with_reducible refine if_ff ?_)
  | (with_reducible refine And.intro (show List.length (List.cons _ _) ≤ 1000000 by simp only [List.length_cons, List.length_nil]; decide) ?_)
  | (with_reducible refine And.intro (show List.length List.nil ≤ 1000000 by decide) ?_)
  | (with_reducible refine And.intro (show List.length (List.cons _ _) = _ from rfl) ?_)))
theorem size_ok {a b k : Nat} {st : Sto} {Q : D → Sto → Prop} (h : Strm a b k st) (hk : k < 2 ^ 40) (q : ∀ (n : Nat) (st' : Sto), 1 ≤ n → n ≤ 7 → Strm a b (k + 1) st' → Kp [a, b] st st' → Q (.int n) st') : Wp (hm__law_size [.obj a]) st Q := by
  refine ws_run ?_
  show Ws hb__law_size [some (.obj a)] st _ _ _ _
  unfold hb__law_size
  walk_at "wp"
  refine draw h hk (by decide) (by decide) fun v s1 hv1 hv2 S1 K1 => ?_
  have : v = 0 ∨ v = 1 ∨ v = 2 ∨ v = 3 ∨ v = 4 ∨ v = 5 ∨ v = 6 ∨ v = 7 := by omega
  rcases this with rfl | rfl | rfl | rfl | rfl | rfl | rfl | rfl
  · exact wp_ixL rfl rfl (q 1 s1 (by decide) (by decide) S1 K1)
  · exact wp_ixL rfl rfl (q 2 s1 (by decide) (by decide) S1 K1)
  · exact wp_ixL rfl rfl (q 3 s1 (by decide) (by decide) S1 K1)
  · exact wp_ixL rfl rfl (q 4 s1 (by decide) (by decide) S1 K1)
  · exact wp_ixL rfl rfl (q 2 s1 (by decide) (by decide) S1 K1)
  · exact wp_ixL rfl rfl (q 3 s1 (by decide) (by decide) S1 K1)
  · exact wp_ixL rfl rfl (q 4 s1 (by decide) (by decide) S1 K1)
  · exact wp_ixL rfl rfl (q 7 s1 (by decide) (by decide) S1 K1)

/-! ### tuples turned into lists -/
noncomputable def hb__law_lists_of (rc : List D → M D) : SM := (sSeq (sIf (tst (eUn (isiD ["tuple", "list"]) (eVar 0))) (sRet (eFrz (eLC (itSeq (eVar 0)) (.name 1) (fun _ => pure true) (eCall 1 rc [] (aCons (eVar 1) aNil)) [1]))) sNil) (sRet (eVar 0)))
noncomputable def hmr__law_lists_of : Nat → List D → M D
  | 0 => fun _ => bad
  | n + 1 => runB 2 (hb__law_lists_of (hmr__law_lists_of n))
noncomputable def hm__law_lists_of : List D → M D := hmr__law_lists_of 5
mutual
def lisD : D → D
  | .tup xs => .lst (lisDs xs)
  | .lst xs => .lst (lisDs xs)
  | d => d
def lisDs : List D → List D
  | [] => []
  | x :: xs => lisD x :: lisDs xs
end
theorem lisDs_map : ∀ xs : List D, lisDs xs = xs.map lisD
  | [] => rfl
  | x :: xs => by simp only [lisDs, List.map_cons, lisDs_map xs]
/-- plain data, no sequence longer than 1000 -/
inductive Pl : Nat → D → Prop
  | int {n : Nat} (i : Int) : Pl n (.int i)
  | bl {n : Nat} (b : Bool) : Pl n (.bl b)
  | tup {n : Nat} {xs : List D} : xs.length ≤ 1000 → (∀ x ∈ xs, Pl n x) → Pl (n + 1) (.tup xs)
  | lst {n : Nat} {xs : List D} : xs.length ≤ 1000 → (∀ x ∈ xs, Pl n x) → Pl (n + 1) (.lst xs)
theorem lists_ok : ∀ (n : Nat) {d : D} {st : Sto} {Q : D → Sto → Prop}, Pl n d → (∀ st', Kp [] st st' → Q (lisD d) st') → Wp (hmr__law_lists_of (n + 1) [d]) st Q := by
  intro n
  induction n with
  | zero =>
    intro d st Q h q
    refine ws_run ?_
    show Ws (hb__law_lists_of _) [some d, none] st _ _ _ _
    unfold hb__law_lists_of
    walk_at "wp"
    cases h with
    | int i =>
      refine wp_isiN false rfl (by decide) (by decide) ?_
      walk_at "wp"
      exact q st (Kp.refl _ _)
    | bl i =>
      refine wp_isiN false rfl (by decide) (by decide) ?_
      walk_at "wp"
      exact q st (Kp.refl _ _)
  | succ n ih =>
    intro d st Q h q
    refine ws_run ?_
    show Ws (hb__law_lists_of _) [some d, none] st _ _ _ _
    unfold hb__law_lists_of
    walk_at "wp"
    cases h with
    | int i =>
      refine wp_isiN false rfl (by decide) (by decide) ?_
      walk_at "wp"
      exact q st (Kp.refl _ _)
    | bl i =>
      refine wp_isiN false rfl (by decide) (by decide) ?_
      walk_at "wp"
      exact q st (Kp.refl _ _)
    | @tup _ xs hl hx =>
      refine wp_isiN true rfl (by decide) (by decide) ?_
      walk_at "wp"
      refine wl_fmap lisD ?_
      walk_at "wp"
      refine ⟨xs, rfl, by show xs.length ≤ _; omega, fun _ _ => rfl, fun d hd st2 k => ⟨_, rfl, ?_⟩, fun st' k => ?_⟩
      · walk_at "wp"
        exact ih (hx d hd) fun st' k' => ⟨rfl, k'⟩
      · have := q st' k
        rwa [lisD, lisDs_map] at this
    | @lst _ xs hl hx =>
      refine wp_isiN true rfl (by decide) (by decide) ?_
      walk_at "wp"
      refine wl_fmap lisD ?_
      walk_at "wp"
      refine ⟨xs, rfl, by show xs.length ≤ _; omega, fun _ _ => rfl, fun d hd st2 k => ⟨_, rfl, ?_⟩, fun st' k => ?_⟩
      · walk_at "wp"
        exact ih (hx d hd) fun st' k' => ⟨rfl, k'⟩
      · have := q st' k
        rwa [lisD, lisDs_map] at this
theorem pl_row {n : Nat} {xs : List Int} (h : xs.length ≤ 1000) : Pl (n + 1) (rowD xs) := .tup (by rw [List.length_map]; exact h) fun x hx => by
  obtain ⟨i, _, rfl⟩ := List.mem_map.mp hx
  exact .int i
theorem pl_mat {n : Nat} {rs : List (List Int)} (h : rs.length ≤ 1000) (hr : ∀ r ∈ rs, r.length ≤ 1000) : Pl (n + 2) (matD rs) := .tup (by rw [List.length_map]; exact h) fun x hx => by
  obtain ⟨r, hr', rfl⟩ := List.mem_map.mp hx
  exact pl_row (hr r hr')
theorem Pl.up {n m : Nat} {d : D} (h : Pl n d) (hm : n ≤ m) : Pl m d := by
  induction h generalizing m with
  | int i => exact .int i
  | bl b => exact .bl b
  | tup hl _ ih =>
    obtain ⟨m', rfl⟩ : ∃ m', m = m' + 1 := ⟨m - 1, by omega⟩
    exact .tup hl fun x hx => ih x hx (by omega)
  | lst hl _ ih =>
    obtain ⟨m', rfl⟩ : ∃ m', m = m' + 1 := ⟨m - 1, by omega⟩
    exact .lst hl fun x hx => ih x hx (by omega)
noncomputable def hb__law_listed : SM := (sRet (eOp ixD (eLst (aCons (eVar 1) (aCons (eCall 1 hm__law_lists_of [] (aCons (eVar 1) aNil)) aNil))) (eCall 2 hm__law_draw [] (aCons (eVar 0) (aCons (eC (.int 2)) aNil)))))
noncomputable def hm__law_listed : List D → M D := runB 2 hb__law_listed
theorem listed_ok {a b k : Nat} {d : D} {st : Sto} {Q : D → Sto → Prop} (h : Strm a b k st) (hk : k < 2 ^ 39) (hd : Pl 4 d) (q : ∀ d' st', d' = d ∨ d' = lisD d → Strm a b (k + 1) st' → Kp [a, b] st st' → Q d' st') : Wp (hm__law_listed [.obj a, d]) st Q := by
  refine ws_run ?_
  show Ws hb__law_listed [some (.obj a), some d] st _ _ _ _
  unfold hb__law_listed
  walk_at "wp"
  refine lists_ok 4 hd fun s1 K1 => ?_
  walk_at "wp"
  refine draw (h.kp K1) (by omega) (by decide) (by decide) fun v s2 hv1 hv2 S2 K2 => ?_
  have : v = 0 ∨ v = 1 := by omega
  rcases this with rfl | rfl
  · exact wp_ixL rfl rfl (q d s2 (.inl rfl) S2 (K1.drop K2))
  · exact wp_ixL rfl rfl (q _ s2 (.inr rfl) S2 (K1.drop K2))
theorem lis_ints (r : List Int) : lisDs (r.map .int) = r.map .int := by
  rw [lisDs_map, List.map_map]
  rfl
theorem RowV.of {d : D} {r : List Int} (h : d = rowD r ∨ d = lisD (rowD r)) : RowV d r := h.imp id fun h => by rw [h, rowD, lisD, lis_ints]
theorem MatV.of {d : D} {rs : List (List Int)} (h : d = matD rs ∨ d = lisD (matD rs)) : MatV d rs := by
  rcases h with rfl | rfl
  · refine ⟨rs.map rowD, .inl rfl, by rw [List.length_map], fun i x hx => ?_⟩
    rw [List.getElem?_map] at hx
    cases e : rs[i]? with
    | none => rw [e] at hx; cases hx
    | some r =>
      rw [e] at hx
      cases hx
      rw [List.getD_eq_getElem?_getD, e]
      exact .inl rfl
  · refine ⟨(rs.map rowD).map lisD, .inr (by rw [matD, lisD, lisDs_map]), by rw [List.length_map, List.length_map], fun i x hx => ?_⟩
    rw [List.getElem?_map, List.getElem?_map] at hx
    cases e : rs[i]? with
    | none => rw [e] at hx; cases hx
    | some r =>
      rw [e] at hx
      cases hx
      rw [List.getD_eq_getElem?_getD, e]
      exact RowV.of (.inr rfl)
theorem MatV.rows {d : D} {rs : List (List Int)} (h : MatV d rs) (st : Sto) : RowsAt st d rs := by
  obtain ⟨ds, hd, hl, hr⟩ := h
  refine ⟨ds, by rcases hd with rfl | rfl <;> rfl, hl, fun i x hx => (hr i x hx).seq st⟩
theorem RowV.sh {d : D} {r : List Int} (h : RowV d r) (hb : ∀ x ∈ r, x.natAbs.log2 < 1920) : shD 1 d = true ∧ bkD d ≤ r.length ∧ isDispD d = true := by
  rcases h with rfl | rfl
  · exact ⟨by simpa only [shD] using shDs_ints hb, by simpa only [bkD] using bkDs_ints r, rfl⟩
  · exact ⟨by simpa only [shD] using shDs_ints hb, by simpa only [bkD] using bkDs_ints r, rfl⟩
theorem shDs_mono {n : Nat} {ds : List D} (h : ∀ d ∈ ds, shD n d = true) : shD (n + 1) (.tup ds) = true ∧ shD (n + 1) (.lst ds) = true := ⟨by simpa only [shD] using shDs_all h, by simpa only [shD] using shDs_all h⟩
theorem MatV.sh {d : D} {rs : List (List Int)} {n : Nat} (h : MatV d rs) (hl : ∀ r ∈ rs, r.length ≤ n) (hb : ∀ r ∈ rs, ∀ x ∈ r, x.natAbs.log2 < 1920) : shD 2 d = true ∧ bkD d ≤ (n + 1) * rs.length ∧ isDispD d = true := by
  obtain ⟨ds, hd, hlen, hr⟩ := h
  have each : ∀ x ∈ ds, shD 1 x = true ∧ bkD x ≤ n := fun x hx => by
    obtain ⟨i, hi, rfl⟩ := List.getElem_of_mem hx
    have m : rs.getD i [] ∈ rs := getD_mem (by omega)
    have := (hr i _ (List.getElem?_eq_getElem hi)).sh (hb _ m)
    exact ⟨this.1, Nat.le_trans this.2.1 (hl _ m)⟩
  have s := shDs_mono fun x hx => (each x hx).1
  have b := bkDs_all fun x hx => (each x hx).2
  rw [hlen] at b
  rcases hd with rfl | rfl
  · exact ⟨s.1, by simpa only [bkD] using b, rfl⟩
  · exact ⟨s.2, by simpa only [bkD] using b, rfl⟩
theorem MatV.val (gs : List (List Int)) : MatV (.lst (gs.map rowD)) gs := ⟨gs.map rowD, .inr rfl, by rw [List.length_map], fun j x hx => by
  rw [List.getElem?_map] at hx
  cases e : gs[j]? with
  | none => rw [e] at hx; cases hx
  | some r =>
    rw [e] at hx
    cases hx
    rw [List.getD_eq_getElem?_getD, e]
    exact .inl rfl⟩
theorem RowsAt.val (st : Sto) (gs : List (List Int)) : RowsAt st (.lst (gs.map rowD)) gs := (MatV.val gs).rows st
end Lat

namespace Lat
open PySem PySem.Spec PyProof.Rows L2 Mir

local macro_rules | `(tactic| walk_at "wp") => `(tactic| repeat (first
  | with_reducible refine ws_seq ?_
  | with_reducible refine ws_set ?_
  | with_reducible refine ws_ret ?_
  | with_reducible refine ws_if ?_
  | with_reducible refine ws_setI ?_
  | with_reducible refine ws_expr ?_
  | with_reducible refine ws_nil ?_
  | with_reducible refine wp_var (by with_unfolding_all rfl) ?_
  | with_reducible refine wp_c ?_
  | with_reducible refine wp_op ?_
  | with_reducible refine wp_un ?_
  | with_reducible refine wp_and ?_
  | with_reducible refine wp_or ?_
  | with_reducible refine wp_not ?_
  | with_reducible refine wp_tst ?_
  | with_reducible refine wp_tand ?_
  | with_reducible refine wp_tor ?_
  | with_reducible refine wp_tnot ?_
  | with_reducible refine wp_chain ?_
  | with_reducible refine wp_ife ?_
  | with_reducible refine wa_nil ?_
  | with_reducible refine wa_cons ?_
  | with_reducible refine wp_lst ?_
  | with_reducible refine wp_tup ?_
  | with_reducible refine wp_new ?_
  | with_reducible refine wp_fn ?_
  | with_reducible refine wp_fn1 ?_
  | with_reducible refine wp_fn2 ?_
  | with_reducible refine wp_call ?_
  | with_reducible refine wp_lm ?_
  | with_reducible refine wp_slice ?_
  | with_reducible refine wo_none ?_
  | with_reducible refine wo_some ?_
  | with_reducible refine wi_seq ?_
  | with_reducible refine wi_enum ?_
  | with_reducible refine wi_rng1 ?_
  | with_reducible refine wi_rng2 ?_
  | with_reducible refine wi_zip ?_
  | with_reducible refine wp_addI ?_
  | with_reducible refine wp_subI ?_
  | with_reducible refine wp_negI ?_
  | with_reducible refine wp_gtI ?_
  | with_reducible refine wp_ltI ?_
  | with_reducible refine wp_geI ?_
  | with_reducible refine wp_leI ?_
  | with_reducible refine wp_eqF ?_
  | with_reducible refine wp_neF ?_
  | with_reducible refine ex_bl ?_
  | (with_reducible refine if_tt ?_)
  | (with_reducible refine if_ff ?_)
  | (with_reducible refine And.intro (show List.length (List.cons _ _) ≤ 1000000 by simp only [List.length_cons, List.length_nil]; decide) ?_)
  | (with_reducible refine And.intro (show List.length List.nil ≤ 1000000 by decide) ?_)
  | (with_reducible refine And.intro (show List.length (List.cons _ _) = _ from rfl) ?_)))
theorem wp_ins {n : Nat} {y : D} {acc : List D} {k : Int} {st : Sto} {Q : D → Sto → Prop} (h : st[n]? = some (.lst acc)) (h0 : 0 ≤ k) (hk : k < 2 ^ 62) (hz : acc.length + 1 ≤ 1000000) (q : Q .non (st.set n (.lst (acc.take k.toNat ++ [y] ++ acc.drop k.toNat)))) : Wp (insD (.obj n) (.int k) y) st Q := by
  refine ⟨_, _, ?_, q⟩
  simp only [insD, h]
  have e : (rngOk k && decide (0 ≤ k) && szOk (acc.length + 1)) = true := by
    rw [Bool.and_eq_true, Bool.and_eq_true]
    exact ⟨⟨decide_eq_true ⟨by omega, hk⟩, decide_eq_true h0⟩, szOk_of hz⟩
  simp only [e, if_true]
theorem wp_setL {n j : Nat} {v : D} {xs : List D} {st : Sto} {Q : Unit → Sto → Prop} (h : st[n]? = some (.lst xs)) (hj : j < xs.length) (q : Q () (st.set n (.lst (xs.set j v)))) : Wp (setD (.obj n) (.int (j : Nat)) v) st Q :=
  wp_setD h (by unfold ixN; rw [if_pos (by omega), if_pos (by omega), Int.toNat_natCast]) q
theorem vf_zero (n : Nat) (c : Nat) : vf (List.replicate n 0) c = 0 := by
  unfold vf
  rw [List.getD_eq_getElem?_getD, List.getElem?_replicate]
  split <;> rfl
theorem wp_repZ {n : Nat} {st : Sto} {Q : D → Sto → Prop} (h2 : n ≤ 1000) (q : Q (rowD (List.replicate n 0)) st) : Wp (repD (.tup [.int 0]) (.int n)) st Q :=
  wp_repT rfl (by omega) (by omega) (by decide) (by
    rw [rep1, Int.toNat_natCast]
    rw [rowD, List.map_replicate] at q
    exact q)
/-! ### equality of rows and matrices -/
theorem dEq_rowD (r s : List Int) : dEq (rowD r) (rowD s) = decide (r = s) := by simp only [rowD, dEq, dEqs_ints]
theorem dEqs_rows2 : ∀ rs ss : List (List Int), dEqs (rs.map rowD) (ss.map rowD) = decide (rs = ss)
  | [], [] => rfl
  | [], s :: ss => by simp [dEqs]
  | r :: rs, [] => by simp [dEqs]
  | r :: rs, s :: ss => by
    simp only [List.map_cons, dEqs, dEq_rowD, dEqs_rows2 rs ss, List.cons.injEq]
    by_cases h1 : r = s <;> by_cases h2 : rs = ss <;> simp [h1, h2]
theorem dEq_matD (rs ss : List (List Int)) : dEq (matD rs) (matD ss) = decide (rs = ss) := by simp only [matD, dEq, dEqs_rows2]
theorem wp_eqM {rs ss : List (List Int)} {st : Sto} {Q : D → Sto → Prop} (q : Q (.bl (decide (rs = ss))) st) : Wp (eqD false (matD rs) (matD ss)) st Q :=
  wp_eqP (a' := matD rs) (b' := matD ss) (n := 2) (m := 2) rfl rfl (plD_mat 0 rs) (plD_mat 0 ss) (by decide) (by decide) (by rw [dEq_matD]; exact q)
theorem wp_neM {rs ss : List (List Int)} {st : Sto} {Q : D → Sto → Prop} (q : Q (.bl (!decide (rs = ss))) st) : Wp (eqD true (matD rs) (matD ss)) st Q :=
  wp_neP (a' := matD rs) (b' := matD ss) (n := 2) (m := 2) rfl rfl (plD_mat 0 rs) (plD_mat 0 ss) (by decide) (by decide) (by rw [dEq_matD]; exact q)
theorem wp_eqR {r s : List Int} {st : Sto} {Q : D → Sto → Prop} (q : Q (.bl (decide (r = s))) st) : Wp (eqD false (rowD r) (rowD s)) st Q :=
  wp_eqP (a' := rowD r) (b' := rowD s) (n := 1) (m := 1) rfl rfl (plD_row 0 r) (plD_row 0 s) (by decide) (by decide) (by rw [dEq_rowD]; exact q)
theorem wp_neR {r s : List Int} {st : Sto} {Q : D → Sto → Prop} (q : Q (.bl (!decide (r = s))) st) : Wp (eqD true (rowD r) (rowD s)) st Q :=
  wp_neP (a' := rowD r) (b' := rowD s) (n := 1) (m := 1) rfl rfl (plD_row 0 r) (plD_row 0 s) (by decide) (by decide) (by rw [dEq_rowD]; exact q)
/-- tests that must fail -/
theorem if_not {A B : Prop} {k : Bool} (h : k = false) (q : B) : if k = true then A else B := by subst h; exact q
theorem if_yes {A B : Prop} {k : Bool} (h : k = true) (q : A) : if k = true then A else B := by subst h; exact q
/-! ### lists of generators -/
theorem Rows.of {rs : List (List Int)} {r : List Int} (h : r ∈ rs) : Rows rs (vf r) := ⟨r, h, rfl⟩
theorem rows_all {rs : List (List Int)} {T : Vf → Prop} (h : ∀ r ∈ rs, Spn T (vf r)) : ∀ x, Rows rs x → Spn T x := fun x ⟨r, hr, e⟩ => by subst e; exact h r hr
/-- the same span -/
def Sm (gs rs : List (List Int)) : Prop := (∀ x, Rows gs x → Spn (Rows rs) x) ∧ ∀ x, Rows rs x → Spn (Rows gs) x
theorem Sm.refl (rs : List (List Int)) : Sm rs rs := ⟨fun _ h => .of h, fun _ h => .of h⟩
theorem Sm.symm {gs rs : List (List Int)} (h : Sm gs rs) : Sm rs gs := ⟨h.2, h.1⟩
theorem Sm.trans {as bs cs : List (List Int)} (h : Sm as bs) (k : Sm bs cs) : Sm as cs := ⟨fun x hx => (h.1 x hx).bind k.1, fun x hx => (k.2 x hx).bind h.2⟩
theorem Sm.iff {gs rs : List (List Int)} (h : Sm gs rs) (x : Vf) : Spn (Rows gs) x ↔ Spn (Rows rs) x := spn_iff h.1 h.2 x
theorem Sm.uniq {n : Nat} {rs ss : List (List Int)} (h : Sm rs ss) (B : IsB n rs) (B' : IsB n ss) : rs = ss := IsB.unique B B' h.1 h.2
theorem Sm.set {gs : List (List Int)} {i : Nat} {r : List Int} (hi : i < gs.length) (h1 : Spn (Rows gs) (vf r)) (h2 : Spn (Rows (gs.set i r)) (vf (gs.getD i []))) : Sm (gs.set i r) gs := by
  refine ⟨rows_all fun q hq => ?_, rows_all fun q hq => ?_⟩
  · rcases List.mem_or_eq_of_mem_set hq with h | h
    · exact .of (.of h)
    · rw [h]; exact h1
  · obtain ⟨j, hj, rfl⟩ := mem_getD (d := []) hq
    by_cases e : i = j
    · subst e; exact h2
    · refine .of (.of ?_)
      have : (gs.set i r).getD j [] = gs.getD j [] := by rw [getD_set hi, if_neg e]
      rw [← this]
      exact getD_mem (by rw [List.length_set]; exact hj)
theorem Sm.ins {gs : List (List Int)} {k : Nat} {r : List Int} (h : Spn (Rows gs) (vf r)) : Sm (gs.take k ++ [r] ++ gs.drop k) gs := by
  refine ⟨rows_all fun q hq => ?_, rows_all fun q hq => ?_⟩
  · rcases List.mem_append.mp hq with hq | hq
    · rcases List.mem_append.mp hq with hq | hq
      · exact .of (.of (List.mem_of_mem_take hq))
      · rw [List.mem_singleton.mp hq]; exact h
    · exact .of (.of (List.mem_of_mem_drop hq))
  · refine .of (.of ?_)
    have : q ∈ gs.take k ++ gs.drop k := by rw [List.take_append_drop]; exact hq
    rcases List.mem_append.mp this with hq | hq
    · exact List.mem_append_left _ (List.mem_append_left _ hq)
    · exact List.mem_append_right _ hq
/-- an elementary step -/
theorem Sm.elem {gs : List (List Int)} {i j : Nat} {f : Int} {r : List Int} (hi : i < gs.length) (hj : j < gs.length) (hne : i ≠ j) (hr : ∀ c, vf r c = f * vf (gs.getD j []) c + vf (gs.getD i []) c) : Sm (gs.set i r) gs := by
  have mi := getD_mem (d := []) hi
  have mj := getD_mem (d := []) hj
  refine Sm.set hi ((Spn.comb f 1 (.of (Rows.of mj)) (.of (Rows.of mi))).cast fun c => by rw [hr]; omega) ?_
  have m1 : Spn (Rows (gs.set i r)) (vf r) := by
    exact Spn.of (.of (List.mem_iff_getElem.mpr ⟨i, by rw [List.length_set]; exact hi, List.getElem_set_self _⟩))
  have m2 : Spn (Rows (gs.set i r)) (vf (gs.getD j [])) := by
    refine .of (.of ?_)
    have : (gs.set i r).getD j [] = gs.getD j [] := by rw [getD_set hi, if_neg hne]
    rw [← this]
    exact getD_mem (by rw [List.length_set]; exact hj)
  refine (Spn.comb 1 (-f) m1 m2).cast fun c => ?_
  rw [hr, Int.neg_mul]
  omega
theorem Sm.neg {gs : List (List Int)} {i : Nat} {r : List Int} (hi : i < gs.length) (hr : ∀ c, vf r c = -1 * vf (gs.getD i []) c) : Sm (gs.set i r) gs := by
  refine Sm.set hi (((Spn.of (Rows.of (getD_mem hi))).mul (-1)).cast fun c => (hr c).symm) ?_
  have m1 : Spn (Rows (gs.set i r)) (vf r) := by
    exact Spn.of (.of (List.mem_iff_getElem.mpr ⟨i, by rw [List.length_set]; exact hi, List.getElem_set_self _⟩))
  exact (m1.mul (-1)).cast fun c => by rw [hr]; omega
/-- vectors below 2 ^ b, of n entries -/
structure Vs (n b : Nat) (gs : List (List Int)) : Prop where
  len : ∀ g ∈ gs, g.length = n
  bd : ∀ g ∈ gs, ∀ j, (vf g j).natAbs < 2 ^ b
theorem Vs.mono {n b b' : Nat} {gs : List (List Int)} (h : Vs n b gs) (hb : b ≤ b') : Vs n b' gs := ⟨h.len, fun g hg j => Nat.lt_of_lt_of_le (h.bd g hg j) (Nat.pow_le_pow_right (by decide) hb)⟩
theorem Vs.set {n b i : Nat} {gs : List (List Int)} {r : List Int} (h : Vs n b gs) (hl : r.length = n) (hb : ∀ j, (vf r j).natAbs < 2 ^ b) : Vs n b (gs.set i r) := by
  refine ⟨fun g hg => ?_, fun g hg => ?_⟩ <;> rcases List.mem_or_eq_of_mem_set hg with h' | h'
  · exact h.len g h'
  · rw [h']; exact hl
  · exact h.bd g h'
  · rw [h']; exact hb
theorem Vs.ins {n b k : Nat} {gs : List (List Int)} {r : List Int} (h : Vs n b gs) (hl : r.length = n) (hb : ∀ j, (vf r j).natAbs < 2 ^ b) : Vs n b (gs.take k ++ [r] ++ gs.drop k) := by
  have c : ∀ g ∈ gs.take k ++ [r] ++ gs.drop k, g ∈ gs ∨ g = r := fun g hg => by
    rcases List.mem_append.mp hg with hg | hg
    · rcases List.mem_append.mp hg with hg | hg
      · exact .inl (List.mem_of_mem_take hg)
      · exact .inr (List.mem_singleton.mp hg)
    · exact .inl (List.mem_of_mem_drop hg)
  refine ⟨fun g hg => ?_, fun g hg => ?_⟩ <;> rcases c g hg with h' | h'
  · exact h.len g h'
  · rw [h']; exact hl
  · exact h.bd g h'
  · rw [h']; exact hb
theorem Vs.log {n b : Nat} {gs : List (List Int)} (h : Vs n b gs) (hb : b < 1920) : ∀ g ∈ gs, ∀ x ∈ g, x.natAbs.log2 < 1920 := fun g hg x hx => by
  obtain ⟨j, hj, rfl⟩ := mem_getD (d := 0) hx
  have := h.bd g hg j
  exact Nat.lt_of_le_of_lt (log2_le (k := b) (Nat.lt_trans this (Nat.pow_lt_pow_right (by decide) (Nat.lt_succ_self _)))) hb
/-- f one + other -/
theorem plus_vf {f : Int} {one other : List Int} {n e1 e2 b : Nat} {st : Sto} {Q : D → Sto → Prop} (hf : f.natAbs < 2 ^ e1) (h1 : one.length = n) (h2 : other.length = n) (hn : n ≤ 1000) (ho : ∀ j, (vf one j).natAbs < 2 ^ e2) (he : e1 + e2 < 134217000) (hb : ∀ j, (vf other j).natAbs < 2 ^ b)
    (q : ∀ (r : List Int) st', r.length = n → (∀ j, vf r j = f * vf one j + vf other j) → (∀ j, (vf r j).natAbs < 2 ^ (max (e1 + e2) b + 1)) → Kp [] st st' → Q (rowD r) st') : Wp (hm__law_plus [.int f, rowD one, rowD other]) st Q := by
  refine plus_ok hf (mem_vf ho) he (by omega) fun st' K => q _ st' (zip_len h1 h2) (fun j => zip_get h1 h2 j) (fun j => ?_) K
  have e : vf (List.zipWith (fun a b => f * a + b) one other) j = f * vf one j + vf other j := zip_get h1 h2 j
  rw [e]
  have a := Int.natAbs_add_le (f * vf one j) (vf other j)
  have b1 : (f * vf one j).natAbs < 2 ^ (e1 + e2) := by
    rw [Int.natAbs_mul, Nat.pow_add]
    exact Nat.mul_lt_mul'' hf (ho j)
  have m1 : (2 : Nat) ^ (e1 + e2) ≤ 2 ^ max (e1 + e2) b := Nat.pow_le_pow_right (by decide) (Nat.le_max_left _ _)
  have m2 : (2 : Nat) ^ b ≤ 2 ^ max (e1 + e2) b := Nat.pow_le_pow_right (by decide) (Nat.le_max_right _ _)
  have := hb j
  rw [Nat.pow_succ]
  omega
/-- a row of a basis is no sum of the others, nor of multiples of it by p -/
theorem IsB.off {n : Nat} {rs os : List (List Int)} (B : IsB n rs) {r : List Int} (hr : r ∈ rs) {p : Int} (hp : p = 0 ∨ 1 < p) (ho : ∀ q ∈ os, (q ∈ rs ∧ q ≠ r) ∨ ∀ c, vf q c = p * vf r c) : ¬ Spn (Rows os) (vf r) := fun h => by
  have pp := IsB.pp B hr
  let E : Nat → Option Vf := fun c => if c = pv r then (if p = 0 then none else some fun c => p * vf r c) else ofB rs c
  have hE : Ech n E := ⟨fun c x hx => by
    by_cases e : c = pv r
    · subst e
      simp only [E, if_true] at hx
      by_cases z : p = 0
      · rw [if_pos z] at hx; cases hx
      · rw [if_neg z] at hx
        cases hx
        have o := (IsB.ech B).ok _ _ (IsB.of B hr)
        refine ⟨o.1, fun j hj => by show p * vf r j = 0; rw [o.2.1 j hj, Int.mul_zero], ?_⟩
        show 0 < p * vf r (pv r)
        exact Int.mul_pos (by omega) pp
    · simp only [E, e, if_false] at hx
      exact (IsB.ech B).ok c x hx⟩
  have sub : Spn (Er E) (vf r) := h.bind (rows_all fun q hq => by
    rcases ho q hq with ⟨h1, h2⟩ | h1
    · refine .of ⟨pv q, ?_⟩
      have : pv q ≠ pv r := fun e => h2 (IsB.pin B h1 hr e)
      simp only [E, this, if_false]
      exact IsB.of B h1
    · by_cases z : p = 0
      · exact Spn.zero.cast fun c => by rw [h1, z, Int.zero_mul]
      · refine .of ⟨pv r, ?_⟩
        have e : vf q = fun c => p * vf r c := funext h1
        simp only [E, if_true, z, if_false, e])
  have l := ech_lead hE sub (c := pv r) fun j hj => IsB.pz j hj
  by_cases z : p = 0
  · have : vf r (pv r) = 0 := l.2 (by simp only [E, if_true, z])
    omega
  · have d : p * vf r (pv r) ∣ vf r (pv r) := l.1 (fun c => p * vf r c) (by simp only [E, if_true, z, if_false])
    have := Int.le_of_dvd pp d
    have h2 : 2 * vf r (pv r) ≤ p * vf r (pv r) := Int.mul_le_mul_of_nonneg_right (by omega) (by omega)
    omega
end Lat

namespace Lat
open PySem PySem.Spec PyProof.Rows L2 Mir

noncomputable def hb__law_coordinates : SM := (sSeq (sSet (.name 2) (eNew aNil)) (sSeq (sFor (itSeq (eVar 0)) (.name 3) (sSeq (sSet (.name 4) (eLM (fun d ds => fn1 (idxD d) ds) (eFrz (eLC (itSeq (eVar 3)) (.name 6) (fun _ => pure true) (eOp (eqD true) (eVar 6) (eC (.int 0))) [6])) (aCons (eC (.bl true)) aNil))) (sSeq (sSet (.name 5) (eOp fdivL (eOp ixD (eVar 1) (eVar 4)) (eOp ixD (eVar 3) (eVar 4)))) (sSeq (sSet (.name 1) (eCall 3 hm__law_plus [] (aCons (eOp subD (eC (.int 0)) (eVar 5)) (aCons (eVar 3) (aCons (eVar 1) aNil))))) (sExpr (eLM (fun d ds => fn1 (appD d) ds) (eVar 2) (aCons (eVar 5) aNil))))))) (sRet (eIf (tst (eFn (fn1 anyD) (aCons (eFrz (eLC (itSeq (eVar 1)) (.name 6) (fun _ => pure true) (eOp (eqD true) (eVar 6) (eC (.int 0))) [6])) aNil))) (eC .non) (eFn (fn1 tupleD) (aCons (eVar 2) aNil))))))
noncomputable def hm__law_coordinates : List D → M D := runB 7 hb__law_coordinates

local macro_rules | `(tactic| walk_at "wp") => `(tactic| repeat (first
  | with_reducible refine ws_seq ?_
  | with_reducible refine ws_set ?_
  | with_reducible refine ws_ret ?_
  | with_reducible refine ws_if ?_
  | with_reducible refine ws_setI ?_
  | with_reducible refine ws_expr ?_
  | with_reducible refine ws_nil ?_
  | with_reducible refine wp_var (by with_unfolding_all rfl) ?_
  | with_reducible refine wp_c ?_
  | with_reducible refine wp_op ?_
  | with_reducible refine wp_un ?_
  | with_reducible refine wp_and ?_
  | with_reducible refine wp_or ?_
  | with_reducible refine wp_not ?_
  | with_reducible refine wp_tst ?_
  | with_reducible refine wp_tand ?_
  | with_reducible refine wp_tor ?_
  | with_reducible refine wp_tnot ?_
  | with_reducible refine wp_chain ?_
  | with_reducible refine wp_ife ?_
  | with_reducible refine wa_nil ?_
  | with_reducible refine wa_cons ?_
  | with_reducible refine wp_lst ?_
  | with_reducible refine wp_tup ?_
  | with_reducible refine wp_new ?_
  | with_reducible refine wp_fn ?_
  | with_reducible refine wp_fn1 ?_
  | with_reducible refine wp_fn2 ?_
  | with_reducible refine wp_call ?_
  | with_reducible refine wp_lm ?_
  | with_reducible refine wp_slice ?_
  | with_reducible refine wo_none ?_
  | with_reducible refine wo_some ?_
  | with_reducible refine wi_seq ?_
  | with_reducible refine wi_enum ?_
  | with_reducible refine wi_rng1 ?_
  | with_reducible refine wi_rng2 ?_
  | with_reducible refine wi_zip ?_
  | with_reducible refine wp_addI ?_
  | with_reducible refine wp_subI ?_
  | with_reducible refine wp_negI ?_
  | with_reducible refine wp_gtI ?_
  | with_reducible refine wp_ltI ?_
  | with_reducible refine wp_geI ?_
  | with_reducible refine wp_leI ?_
  | with_reducible refine wp_eqF ?_
  | with_reducible refine wp_neF ?_
  | with_reducible refine ex_bl ?_
  | (with_reducible refine if_tt ?_)
  | (with_reducible refine if_ff ?_)
  | (with_reducible refine And.intro (show List.length (List.cons _ _) ≤ 1000000 by simp only [List.length_cons, List.length_nil]; decide) ?_)
  | (with_reducible refine And.intro (show List.length List.nil ≤ 1000000 by decide) ?_)
  | (with_reducible refine And.intro (show List.length (List.cons _ _) = _ from rfl) ?_)))
theorem wp_idx {xs : List D} {d y : D} {j : Nat} {st : Sto} {Q : D → Sto → Prop} (h : lstOf st d = some xs) (fl : (flatD y && xs.all flatD) = true) (hj : (xs.findIdx? fun x => eqV (tv x) (tv y)) = some j) (q : Q (.int (j : Nat)) st) : Wp (idxD d y) st Q := ⟨_, _, by simp only [idxD, h, fl, hj, if_true], q⟩
/-- the place of the first entry that is not 0 -/
theorem wp_idxPv {xs : List D} {d : D} {r : List Int} {st : Sto} {Q : D → Sto → Prop} (h : lstOf st d = some xs) (hx : xs = r.map fun x => .bl (decide (x ≠ 0))) (hp : pv r < r.length) (q : Q (.int (pv r : Nat)) st) : Wp (idxD d (.bl true)) st Q := by
  subst hx
  refine wp_idx h ?_ ?_ q
  · rw [Bool.and_eq_true]
    refine ⟨rfl, List.all_eq_true.mpr fun x hx => ?_⟩
    obtain ⟨y, _, rfl⟩ := List.mem_map.mp hx
    rfl
  · rw [List.findIdx?_map, List.findIdx?_eq_some_iff_getElem]
    have g : ∀ j (hj : j < r.length), r[j] = r.getD j 0 := fun j hj => by rw [List.getD_eq_getElem?_getD, List.getElem?_eq_getElem hj]; rfl
    refine ⟨hp, ?_, fun j hj => ?_⟩
    · show eqV (tv (D.bl (decide (r[pv r] ≠ 0)))) (tv (D.bl true)) = true
      rw [g, decide_eq_true (pv_ne hp)]
      rfl
    · show ¬ eqV (tv (D.bl (decide (r[j] ≠ 0)))) (tv (D.bl true)) = true
      rw [g, decide_eq_false (fun z => z (pv_zero hj))]
      decide
theorem lcoords_ok {n b t : Nat} {rs : List (List Int)} {v : List Int} {st : Sto} {Q : D → Sto → Prop} (hn : n ≤ 15) (B : IsB n rs) (hb : ∀ r ∈ rs, ∀ j, (vf r j).natAbs < 2 ^ b) (hv : v.length = n) (vb : ∀ j, (vf v j).natAbs < 2 ^ t) (lim : t + n * (b + 1) + b + 2 < 134217000)
    (fin : ∀ d st', (∃ fs : List Int, d = .tup (fs.map .int) ∧ fs.length = rs.length ∧ (∀ j, vf v j = sm rs.length fun i => fs.getD i 0 * vf (rs.getD i []) j) ∧ Spn (Rows rs) (vf v)) ∨ (d = .non ∧ ¬ Spn (Rows rs) (vf v)) → Kp [] st st' → Q d st') : Wp (hm__law_coordinates [matD rs, rowD v]) st Q := by
  have hrs := B.count
  refine ws_run ?_
  show Ws hb__law_coordinates [some (matD rs), some (rowD v), none, none, none, none, none] st _ _ _ _
  unfold hb__law_coordinates
  walk_at "wp"
  have k0 : Kp [] st (st ++ [.lst []]) := Kp.app _ _ _
  have g0 : (st ++ [O.lst []])[st.length]? = some (.lst []) := app_get
  have hp : st.length ≤ st.length := Nat.le_refl _
  generalize st ++ [O.lst []] = s0 at k0 g0 ⊢
  generalize hpe : st.length = p at g0 ⊢
  refine ws_for (rs.map rowD, fun st' => seqOf st' (matD rs) = some (rs.map rowD))
    (fun i env s' => ∃ (u : List Int) (fs : List Int) (w3 w4 w5 : Option D), env = [some (matD rs), some (rowD u), some (.obj p), w3, w4, w5, none] ∧ Kp [] st s' ∧ s'[p]? = some (.lst (fs.map .int)) ∧ u.length = n ∧ fs.length = i ∧ (∀ j, vf v j = vf u j + sm i fun k => fs.getD k 0 * vf (rs.getD k []) j) ∧
      Spn (Rows rs) (fun j => vf v j - vf u j) ∧ (Spn (Rows rs) (vf v) → ∀ k < i, ∀ j ≤ Mir.pv (rs.getD k []), vf u j = 0) ∧ ∀ j, (vf u j).natAbs < 2 ^ (t + i * (b + 1))) ?_ ?_ ?_ ?_
  · walk_at "wp"
    exact ⟨_, rfl, rfl, v, [], _, _, _, rfl, k0, g0, hv, rfl, fun j => by simp [sm], Spn.zero.cast fun j => by omega, fun _ k hk => absurd hk (Nat.not_lt_zero _), fun j => by simpa using vb j⟩
  · rintro i env s' _
    rfl
  · rintro i d env s1 hd ⟨u, fs, w3, w4, w5, rfl, k, gp, hu, hfl, hsum, hsp, hz, ub⟩
    obtain ⟨r, er, hgd, vr⟩ := (RowsV.rows rs).get hd
    obtain rfl : d = rowD r := by
      rw [List.getElem?_map, er] at hd
      cases hd
      rfl
    have hi := (List.getElem?_eq_some_iff.mp er).1
    have hrm : r ∈ rs := List.mem_of_getElem? er
    have hr := B.len r hrm
    have hpr := B.piv r hrm
    have rpos := IsB.pp B hrm
    have hin : (i + 1) * (b + 1) ≤ n * (b + 1) := Nat.mul_le_mul_right _ (by omega)
    have hin2 : (i + 1) * (b + 1) = i * (b + 1) + (b + 1) := by rw [Nat.add_mul, Nat.one_mul]
    refine ⟨_, rfl, ?_⟩
    walk_at "wp"
    refine wl_fmap (fun d => match d with | .int x => .bl (decide (x ≠ 0)) | _ => .non) ?_
    walk_at "wp"
    refine ⟨r.map .int, rfl, by show (r.map D.int).length ≤ _; rw [List.length_map, hr]; omega, fun _ _ => rfl, fun d hd st2 k => ?_, fun s5 K5 => ?_⟩
    · obtain ⟨x, _, rfl⟩ := List.mem_map.mp hd
      refine ⟨_, rfl, ?_⟩
      walk_at "wp"
      exact ⟨rfl, Kp.refl _ _⟩
    refine ⟨rfl, ?_⟩
    walk_at "wp"
    refine wp_idxPv (r := r) (xs := ((r.map D.int).map fun d => match d with | .int x => .bl (decide (x ≠ 0)) | _ => .non)) rfl (by rw [List.map_map]; rfl) (by omega) ?_
    have gp := K5.at' _ _ (by simp) gp
    have k := k.trans K5
    walk_at "wp"
    refine wp_ixR (by omega) ?_
    walk_at "wp"
    refine wp_ixR (by omega) ?_
    have hd0 : r.getD (Mir.pv r) 0 ≠ 0 := by have : 0 < r.getD (Mir.pv r) 0 := rpos; omega
    refine wp_fdivL hd0 ?_
    walk_at "wp"
    generalize hq : (u.getD (Mir.pv r) 0).fdiv (r.getD (Mir.pv r) 0) = q
    have qb : q.natAbs < 2 ^ (t + i * (b + 1)) := by rw [← hq]; exact Nat.lt_of_le_of_lt (fdiv_abs' hd0) (ub _)
    refine plus_ok (f := 0 - q) (one := r) (other := u) (e1 := t + i * (b + 1)) (e2 := b) (by rw [Int.zero_sub, Int.natAbs_neg]; exact qb) (mem_vf (hb r hrm)) (by omega) (by omega) fun s2 k2 => ?_
    have gp2 := k2.at' _ _ (by simp) gp
    have k2 := k.trans k2
    have hvj : ∀ j, vf ((List.zipWith (fun a b => (0 - q) * a + b) r u)) j = vf u j - q * vf r j := fun j => by
      show (List.zipWith (fun a b => (0 - q) * a + b) r u).getD j 0 = _
      rw [zip_get hr hu j]
      show (0 - q) * vf r j + vf u j = _
      rw [Int.sub_mul, Int.zero_mul]
      omega
    walk_at "wp"
    refine ⟨by simp only [lstOf, gp2]; rfl, ?_⟩
    walk_at "wp"
    refine wp_app gp2 (by rw [List.length_map]; omega) ?_
    have ex : fs.map D.int ++ [D.int q] = (fs ++ [q]).map D.int := by simp
    rw [ex]
    have hsum' : ∀ j, vf v j = vf ((List.zipWith (fun a b => (0 - q) * a + b) r u)) j + sm (i + 1) fun k => (fs ++ [q]).getD k 0 * vf (rs.getD k []) j := fun j => by
      rw [hvj]
      show _ = _ + (sm i (fun k => (fs ++ [q]).getD k 0 * vf (rs.getD k []) j) + (fs ++ [q]).getD i 0 * vf (rs.getD i []) j)
      have e1 : sm i (fun k => (fs ++ [q]).getD k 0 * vf (rs.getD k []) j) = sm i fun k => fs.getD k 0 * vf (rs.getD k []) j := sm_congr fun k hk => by rw [getD_app_l (by omega)]
      have e2 : (fs ++ [q]).getD i 0 = q := by rw [← hfl]; exact getD_app_e
      rw [e1, e2, hgd, hsum j]
      omega
    have hsp' : Spn (Rows rs) fun j => vf v j - vf ((List.zipWith (fun a b => (0 - q) * a + b) r u)) j := (hsp.plus ((Spn.of (S := Rows rs) ⟨r, hrm, rfl⟩).mul q)).cast fun j => by rw [hvj]; omega
    refine ⟨(List.zipWith (fun a b => (0 - q) * a + b) r u), fs ++ [q], _, _, _, rfl, k2.set (.inl (by omega)) _, set_get gp2, zip_len hr hu, by simp [hfl], hsum', hsp', fun hin' => ?_, fun j => ?_⟩
    · have uS : Spn (Rows rs) (vf u) := (hin'.sub hsp).cast fun j => by omega
      have uz : ∀ j < Mir.pv r, vf u j = 0 := by
        intro j
        induction j using Nat.strongRecOn with
        | _ j ih =>
          intro hj
          cases e : ofB rs j with
          | none => exact (ech_lead (IsB.ech B) (uS.mono fun y h => (IsB.er B).mpr h) fun j' hj' => ih j' hj' (by omega)).2 e
          | some w =>
            obtain ⟨w', hw', ep, rfl⟩ := ofB_some e
            obtain ⟨k', hk', ek⟩ := IsB.at' B hw'
            have : k' < i := Classical.byContradiction fun z => by
              by_cases e2 : k' = i
              · rw [e2, hgd] at ek
                subst ek
                omega
              · have := IsB.lt B (show i < k' by omega) hk'
                rw [hgd, ek] at this
                omega
            exact hz hin' k' this j (by rw [ek]; omega)
      have dv := (ech_lead (IsB.ech B) (uS.mono fun y h => (IsB.er B).mpr h) uz).1 _ (IsB.of B hrm)
      have zero : vf ((List.zipWith (fun a b => (0 - q) * a + b) r u)) (Mir.pv r) = 0 := by
        rw [hvj]
        obtain ⟨m, hm⟩ := dv
        have : q = m := by
          rw [← hq]
          show (vf u (Mir.pv r)).fdiv (vf r (Mir.pv r)) = m
          rw [fdiv_e rpos]
          show vf u (Mir.pv r) / vf r (Mir.pv r) = m
          rw [hm]
          exact Int.mul_ediv_cancel_left _ (by omega)
        rw [this, hm, Int.mul_comm]
        omega
      intro k' hk' j hj
      by_cases e : k' = i
      · subst e
        rw [hgd] at hj
        by_cases e2 : j = Mir.pv r
        · rw [e2]; exact zero
        · rw [hvj, uz j (by omega), IsB.pz j (by omega)]
          simp
      · have lt := IsB.lt B (show k' < i by omega) hi
        rw [hgd] at lt
        rw [hvj, uz j (by omega), IsB.pz j (by omega)]
        simp
    · rw [hvj]
      have b1 := ub j
      have b2 := big (Nat.le_of_lt qb) (Nat.le_of_lt (hb r hrm j))
      have b3 := Int.natAbs_sub_le (vf u j) (q * vf r j)
      have b4 : (2 : Nat) ^ (t + (i + 1) * (b + 1)) = 2 * 2 ^ (t + i * (b + 1) + b) := by rw [hin2, show t + (i * (b + 1) + (b + 1)) = (t + i * (b + 1) + b) + 1 by omega, Nat.pow_succ, Nat.mul_comm]
      have b5 : (2 : Nat) ^ (t + i * (b + 1)) ≤ 2 ^ (t + i * (b + 1) + b) := Nat.pow_le_pow_right (by decide) (by omega)
      omega
  · rintro env s1 ⟨u, fs, w3, w4, w5, rfl, k, gp, hu, hfl, hsum, hsp, hz, ub⟩
    rw [show (rs.map rowD, fun st' : Sto => seqOf st' (matD rs) = some (rs.map rowD)).1 = rs.map rowD from rfl, List.length_map] at *
    walk_at "wp"
    refine wl_fmap (fun d => match d with | .int x => .bl (decide (x ≠ 0)) | _ => .non) ?_
    walk_at "wp"
    refine ⟨u.map .int, rfl, by show (u.map D.int).length ≤ _; rw [List.length_map, hu]; omega, fun _ _ => rfl, fun d hd st2 k => ?_, fun s5 K5 => ?_⟩
    · obtain ⟨x, _, rfl⟩ := List.mem_map.mp hd
      refine ⟨_, rfl, ?_⟩
      walk_at "wp"
      exact ⟨rfl, Kp.refl _ _⟩
    have gp := K5.at' _ _ (by simp) gp
    have k := k.trans K5
    walk_at "wp"
    refine wp_anyF (fun x : Int => decide (x ≠ 0)) (ys := u) (by rw [List.map_map]; rfl) ?_
    walk_at "wp"
    by_cases hin : ∀ j, vf u j = 0
    · refine if_not ?_ ?_
      · rw [List.any_eq_false]
        intro x hx
        obtain ⟨j, hj, rfl⟩ := mem_getD (d := 0) hx
        have : u.getD j 0 = 0 := hin j
        rw [this]
        simp
      walk_at "wp"
      refine wp_tuple (xs := fs.map .int) (by simp only [seqOf, lstOf, gp]) ?_
      exact fin _ _ (.inl ⟨fs, rfl, hfl, fun j => by rw [hsum j, hin j]; omega, hsp.cast fun j => by rw [hin j]; omega⟩) k
    · refine if_yes ?_ ?_
      · obtain ⟨j, hj⟩ := Classical.not_forall.mp hin
        have hjl : j < u.length := Classical.byContradiction fun z => hj (getD_ge (by omega))
        rw [List.any_eq_true]
        exact ⟨u.getD j 0, Mir.getD_mem hjl, decide_eq_true hj⟩
      walk_at "wp"
      refine fin _ _ (.inr ⟨rfl, fun hS => hin ?_⟩) k
      have uS : Spn (Rows rs) (vf u) := (hS.sub hsp).cast fun j => by omega
      refine ech_zero (IsB.ech B) (uS.mono fun y h => (IsB.er B).mpr h) fun c x hx _ => ?_
      obtain ⟨w', hw', ep, rfl⟩ := ofB_some hx
      obtain ⟨k', hk', ek⟩ := IsB.at' B hw'
      exact hz hS k' hk' c (by rw [ek]; omega)

/-- what coordinates returns -/
def Crd (rs : List (List Int)) (v : List Int) (d : D) : Prop := (∃ fs : List Int, d = .tup (fs.map .int) ∧ fs.length = rs.length ∧ (∀ j, vf v j = sm rs.length fun i => fs.getD i 0 * vf (rs.getD i []) j) ∧ Spn (Rows rs) (vf v)) ∨ (d = .non ∧ ¬ Spn (Rows rs) (vf v))
theorem IsB.free {n : Nat} {rs : List (List Int)} (B : IsB n rs) {f g : Nat → Int} (h : ∀ j, (sm rs.length fun i => f i * vf (rs.getD i []) j) = sm rs.length fun i => g i * vf (rs.getD i []) j) : ∀ i < rs.length, f i = g i := by
  intro i
  induction i using Nat.strongRecOn with
  | _ i ih =>
    intro hi
    have mi := getD_mem (d := []) hi
    have e := h (pv (rs.getD i []))
    have z : sm rs.length (fun k => (f k - g k) * vf (rs.getD k []) (pv (rs.getD i []))) = 0 := by
      have : (fun k => (f k - g k) * vf (rs.getD k []) (pv (rs.getD i []))) = fun k => f k * vf (rs.getD k []) (pv (rs.getD i [])) - g k * vf (rs.getD k []) (pv (rs.getD i [])) := funext fun k => Int.sub_mul _ _ _
      rw [this, sm_sub, e]
      omega
    rw [sm_one hi fun k hk hne => ?_] at z
    · have pp := IsB.pp B mi
      rcases Int.mul_eq_zero.mp z with z | z
      · omega
      · omega
    · by_cases l : k < i
      · rw [ih k l hk]
        simp
      · have lt := IsB.lt B (show i < k by omega) hk
        rw [IsB.pz _ lt, Int.mul_zero]
theorem Crd.uniq {n : Nat} {rs : List (List Int)} {v : List Int} {d d' : D} (B : IsB n rs) (h : Crd rs v d) (h' : Crd rs v d') : d = d' := by
  rcases h with ⟨fs, rfl, l1, s1, m1⟩ | ⟨rfl, m1⟩ <;> rcases h' with ⟨gs, rfl, l2, s2, m2⟩ | ⟨rfl, m2⟩
  · have := IsB.free B (f := fun i => fs.getD i 0) (g := fun i => gs.getD i 0) fun j => by rw [← s1, ← s2]
    have e : fs = gs := vf_inj (by omega) fun j => by
      by_cases hj : j < rs.length
      · exact this j hj
      · show fs.getD j 0 = gs.getD j 0
        rw [getD_ge (by omega), getD_ge (by omega)]
    rw [e]
  · exact absurd m1 m2
  · exact absurd m2 m1
  · rfl
theorem wp_isnBl {j k : Bool} {st : Sto} {Q : D → Sto → Prop} (q : Q (.bl (!decide (j = k))) st) : Wp (isD true (.bl j) (.bl k)) st Q := ⟨_, _, rfl, by rw [Bool.true_xor]; exact q⟩
end Lat

/-! lattices told by few small vectors of a larger space: the elements are the tails of those whose first K entries are 0 -/
namespace Lat
open Mir
def up (K : Nat) (x : Vf) : Vf := fun c => if c < K then 0 else x (c - K)
def dn (K : Nat) (x : Vf) : Vf := fun c => x (c + K)
theorem dn_up (K : Nat) (x : Vf) (c : Nat) : dn K (up K x) c = x c := by
  unfold dn up
  rw [if_neg (by omega)]
  exact congrArg x (by omega)
theorem up_dn {K : Nat} {x : Vf} (h : ∀ c < K, x c = 0) (c : Nat) : up K (dn K x) c = x c := by
  unfold dn up
  split
  · exact (h c (by assumption)).symm
  · exact congrArg x (by omega)
structure Lin (φ : Vf → Vf) : Prop where
  zero : ∀ c, φ (fun _ => 0) c = 0
  add : ∀ k g v c, φ (fun c => k * g c + v c) c = k * φ g c + φ v c
theorem Lin.spn {φ : Vf → Vf} (h : Lin φ) {S : List Vf} {y : Vf} : Spn (· ∈ S.map φ) y ↔ ∃ z, Spn (· ∈ S) z ∧ ∀ c, y c = φ z c := by
  constructor
  · intro hy
    induction hy with
    | zero => exact ⟨_, .zero, fun c => (h.zero c).symm⟩
    | @add g w k hg _ ih =>
      obtain ⟨z, hz, e⟩ := ih
      obtain ⟨g', hg', rfl⟩ := List.mem_map.mp hg
      exact ⟨_, .add k hg' hz, fun c => by rw [h.add, ← e]⟩
  · rintro ⟨z, hz, e⟩
    have : Spn (· ∈ S.map φ) (φ z) := by
      clear e
      induction hz with
      | zero => exact Spn.zero.cast fun c => (h.zero c).symm
      | @add g w k hg _ ih => exact (Spn.add k (List.mem_map.mpr ⟨g, hg, rfl⟩) ih).cast fun c => (h.add k g w c).symm
    exact this.cast fun c => (e c).symm
theorem spn_app {S T : List Vf} {y : Vf} : Spn (· ∈ S ++ T) y ↔ ∃ u v, Spn (· ∈ S) u ∧ Spn (· ∈ T) v ∧ ∀ c, y c = u c + v c := by
  constructor
  · intro hy
    induction hy with
    | zero => exact ⟨_, _, .zero, .zero, fun c => rfl⟩
    | @add g w k hg _ ih =>
      obtain ⟨u, v, hu, hv, e⟩ := ih
      rcases List.mem_append.mp hg with hg | hg
      · exact ⟨_, _, .add k hg hu, hv, fun c => by dsimp only; rw [e, Int.add_assoc]⟩
      · exact ⟨_, _, hu, .add k hg hv, fun c => by dsimp only; rw [e]; omega⟩
  · rintro ⟨u, v, hu, hv, e⟩
    exact ((hu.mono fun _ h => List.mem_append_left _ h).plus (hv.mono fun _ h => List.mem_append_right _ h)).cast fun c => (e c).symm
theorem spn_sing {g y : Vf} : Spn (· ∈ [g]) y ↔ ∃ k : Int, ∀ c, y c = k * g c := by
  constructor
  · intro hy
    induction hy with
    | zero => exact ⟨0, fun c => by simp⟩
    | @add x w k hx _ ih =>
      obtain ⟨k', e⟩ := ih
      obtain rfl := List.mem_singleton.mp hx
      exact ⟨k + k', fun c => by dsimp only; rw [e, Int.add_mul]⟩
  · rintro ⟨k, e⟩
    exact ((Spn.of (S := (· ∈ [g])) (List.mem_singleton.mpr rfl)).mul k).cast fun c => (e c).symm
theorem spn_top {S : List Vf} {d : Nat} (h : ∀ g ∈ S, ∀ c, d ≤ c → g c = 0) {y : Vf} (hy : Spn (· ∈ S) y) : ∀ c, d ≤ c → y c = 0 :=
  hy.all (P := fun y => ∀ c, d ≤ c → y c = 0) (fun _ _ => rfl) fun k g v hg hv c hc => by
    show k * g c + v c = 0
    rw [h g hg c hc, hv c hc]
    simp
structure Prs (n K b : Nat) (A : Vf → Prop) : Prop where
  ex : ∃ S : List Vf, (∀ g ∈ S, ∀ c, (g c).natAbs < 2 ^ b) ∧ (∀ g ∈ S, ∀ c, K + n ≤ c → g c = 0) ∧ ∀ x, A x ↔ Spn (· ∈ S) (up K x)
section
variable {n K K' b : Nat} {A A' : Vf → Prop}
theorem Prs.cong (P : Prs n K b A) (h : ∀ x, A' x ↔ A x) : Prs n K b A' := by
  obtain ⟨S, h1, h2, h3⟩ := P
  exact ⟨S, h1, h2, fun x => (h x).trans (h3 x)⟩
theorem Prs.mono {b' : Nat} (P : Prs n K b A) (h : b ≤ b') : Prs n K b' A := by
  obtain ⟨S, h1, h2, h3⟩ := P
  exact ⟨S, fun g hg c => Nat.lt_of_lt_of_le (h1 g hg c) (Nat.pow_le_pow_right (by decide) h), h2, h3⟩
theorem Prs.more (P : Prs n K b A) (h : K ≤ K') : Prs n K' b A := by
  obtain ⟨S, h1, h2, h3⟩ := P
  refine ⟨S.map (up (K' - K)), fun g hg c => ?_, fun g hg c hc => ?_, fun x => ?_⟩
  · obtain ⟨y, hy, rfl⟩ := List.mem_map.mp hg
    unfold up
    split
    · exact Nat.two_pow_pos _
    · exact h1 y hy _
  · obtain ⟨y, hy, rfl⟩ := List.mem_map.mp hg
    unfold up
    rw [if_neg (by omega)]
    exact h2 y hy _ (by omega)
  · have L : Lin (up (K' - K)) := ⟨fun c => by unfold up; split <;> rfl, fun k g v c => by unfold up; split <;> simp⟩
    rw [h3, L.spn]
    constructor
    · intro hx
      refine ⟨_, hx, fun c => ?_⟩
      unfold up
      by_cases h1 : c < K' - K
      · rw [if_pos h1, if_pos (by omega)]
      · rw [if_neg h1]
        by_cases h2 : c < K'
        · rw [if_pos h2, if_pos (by omega)]
        · rw [if_neg h2, if_neg (by omega)]
          exact congrArg x (by omega)
    · rintro ⟨z, hz, e⟩
      refine hz.cast fun c => ?_
      have := e (c + (K' - K))
      unfold up at this ⊢
      rw [if_neg (show ¬ c + (K' - K) < K' - K by omega), show c + (K' - K) - (K' - K) = c by omega] at this
      rw [← this]
      by_cases h2 : c < K
      · rw [if_pos h2, if_pos (by omega)]
      · rw [if_neg h2, if_neg (by omega)]
        exact congrArg x (by omega)
theorem Prs.crt (P : Prs n K b A) (hd : K + n ≤ 15) : ∃ L, Crt A n ((b + 5) * (K + n)) L := by
  obtain ⟨S, h1, h2, h3⟩ := P
  obtain ⟨L, C⟩ := crt_ex hd h1 h2
  have mm : ∀ {q : Nat × Vf}, q ∈ (L.filter fun q => decide (K ≤ q.1)).map (fun q => (q.1 - K, dn K q.2)) → ∃ p ∈ L, K ≤ p.1 ∧ q = (p.1 - K, dn K p.2) := fun h => by
    obtain ⟨p, hp, rfl⟩ := List.mem_map.mp h
    have := List.mem_filter.mp hp
    exact ⟨p, this.1, of_decide_eq_true this.2, rfl⟩
  refine ⟨(L.filter fun q => decide (K ≤ q.1)).map fun q => (q.1 - K, dn K q.2), fun q hq => ?_, fun q hq => ?_, fun q hq c hc => ?_, fun q hq => ?_, fun q hq q' hq' hne => ?_, ?_, fun q hq c => ?_, fun q hq c hc => ?_, fun x hx hz c => ?_⟩
  · obtain ⟨p, hp, hk, rfl⟩ := mm hq
    refine (h3 _).mpr ((C.mem p hp).cast fun c => (up_dn (fun c hc => C.lead p hp c (by omega)) c).symm)
  · obtain ⟨p, hp, hk, rfl⟩ := mm hq
    have := C.lt p hp
    show p.1 - K < n
    omega
  · obtain ⟨p, hp, hk, rfl⟩ := mm hq
    exact C.lead p hp _ (by have : c < p.1 - K := hc; omega)
  · obtain ⟨p, hp, hk, rfl⟩ := mm hq
    show 0 < p.2 (p.1 - K + K)
    rw [show p.1 - K + K = p.1 by omega]
    exact C.pos p hp
  · obtain ⟨p, hp, hk, rfl⟩ := mm hq
    obtain ⟨p', hp', hk', rfl⟩ := mm hq'
    show p.2 (p'.1 - K + K) = 0
    rw [show p'.1 - K + K = p'.1 by omega]
    exact C.off p hp p' hp' fun e => hne (by show p.1 - K = p'.1 - K; rw [e])
  · have nd := C.nd
    clear C
    induction L with
    | nil => exact .nil
    | cons q L ih =>
      rw [List.map_cons, List.nodup_cons] at nd
      by_cases hq : K ≤ q.1
      · rw [List.filter_cons_of_pos (by simpa using hq), List.map_cons, List.map_cons, List.nodup_cons]
        refine ⟨fun hm => nd.1 ?_, ih (fun {q'} h => ?_) nd.2⟩
        · obtain ⟨y, hy, e⟩ := List.mem_map.mp hm
          obtain ⟨p, hp, rfl⟩ := List.mem_map.mp hy
          have := List.mem_filter.mp hp
          have k2 : K ≤ p.1 := of_decide_eq_true this.2
          have e : p.1 - K = q.1 - K := e
          exact List.mem_map.mpr ⟨p, this.1, by omega⟩
        · obtain ⟨p, hp, rfl⟩ := List.mem_map.mp h
          have := List.mem_filter.mp hp
          exact ⟨p, this.1, of_decide_eq_true this.2, rfl⟩
      · rw [List.filter_cons_of_neg (by simpa using hq)]
        refine ih (fun {q'} h => ?_) nd.2
        obtain ⟨p, hp, rfl⟩ := List.mem_map.mp h
        have := List.mem_filter.mp hp
        exact ⟨p, this.1, of_decide_eq_true this.2, rfl⟩
  · obtain ⟨p, hp, hk, rfl⟩ := mm hq
    exact C.sz p hp _
  · obtain ⟨p, hp, hk, rfl⟩ := mm hq
    exact C.top p hp _ (by omega)
  · have := C.zero _ ((h3 x).mp hx) (fun q hq => by
      unfold up
      by_cases h : q.1 < K
      · rw [if_pos h]
      · rw [if_neg h]
        exact hz (q.1 - K, dn K q.2) (List.mem_map.mpr ⟨q, List.mem_filter.mpr ⟨hq, decide_eq_true (by omega)⟩, rfl⟩)) (c + K)
    rw [← dn_up K x c]
    exact this
theorem Prs.small (P : Prs n K b A) (hd : K + n ≤ 15) {rs : List (List Int)} (B : IsB n rs) (h : ∀ x, Spn (Rows rs) x ↔ A x) {r : List Int} (hr : r ∈ rs) (c : Nat) : (vf r c).natAbs < 2 ^ ((b + 5) * 15 + 4) := by
  obtain ⟨L, C⟩ := (P.cong h).crt hd
  have := IsB.small B C (fun _ h => .of h) (fun _ h => .of h) hr c
  refine Nat.lt_of_le_of_lt this ?_
  have p := Nat.two_pow_pos ((b + 5) * (K + n))
  have h3 := Nat.mul_le_mul_right (2 ^ ((b + 5) * (K + n))) (show n ≤ 15 by omega)
  have h4 : (2 : Nat) ^ ((b + 5) * (K + n)) ≤ 2 ^ ((b + 5) * 15) := Nat.pow_le_pow_right (by decide) (Nat.mul_le_mul_left _ hd)
  rw [Nat.pow_add]
  omega
theorem Prs.base {rs : List (List Int)} (hl : ∀ r ∈ rs, r.length = n) (hb : ∀ r ∈ rs, ∀ j, (vf r j).natAbs < 2 ^ b) : Prs n 0 b (Spn (Rows rs)) := by
  refine ⟨rs.map vf, fun g hg c => ?_, fun g hg c hc => ?_, fun x => ?_⟩
  · obtain ⟨r, hr, rfl⟩ := List.mem_map.mp hg
    exact hb r hr c
  · obtain ⟨r, hr, rfl⟩ := List.mem_map.mp hg
    exact vf_top (hl r hr) c (by omega)
  · rw [rows_list, show up 0 x = x from funext fun c => by unfold up; rw [if_neg (by omega)]; rfl]
theorem Prs.cut (P : Prs n K b A) {s m b' : Nat} {f : Vf} (hn : n ≤ 15) (hf : ∀ i, (f i).natAbs < 2 ^ s) (hm : m < 2 ^ b') (hb : s + b + 4 ≤ b') : Prs n (K + 1) b' fun x => A x ∧ (m : Int) ∣ dt n f x := by
  obtain ⟨S, h1, h2, h3⟩ := P
  let φ : Vf → Vf := fun g c => if c = 0 then dt n f (dn K g) else g (c - 1)
  have L : Lin φ := ⟨fun c => by
    show (if c = 0 then dt n f (dn K fun _ => 0) else 0) = 0
    split
    · exact dt_zero n f
    · rfl, fun k g v c => by
    show (if c = 0 then dt n f (dn K fun c => k * g c + v c) else _) = k * (if c = 0 then dt n f (dn K g) else _) + (if c = 0 then dt n f (dn K v) else _)
    by_cases h : c = 0
    · rw [if_pos h, if_pos h, if_pos h]
      have := dt_lin n f (dn K g) (dn K v) k 1
      rw [Int.one_mul] at this
      rw [← this]
      exact dt_cast fun i => by show k * g (i + K) + v (i + K) = k * g (i + K) + 1 * v (i + K); omega
    · rw [if_neg h, if_neg h, if_neg h]⟩
  refine ⟨S.map φ ++ [fun c => if c = 0 then (m : Int) else 0], fun g hg c => ?_, fun g hg c hc => ?_, fun x => ?_⟩
  · rcases List.mem_append.mp hg with hg | hg
    · obtain ⟨y, hy, rfl⟩ := List.mem_map.mp hg
      show (if c = 0 then dt n f (dn K y) else y (c - 1)).natAbs < _
      split
      · exact Nat.lt_of_lt_of_le (dt_abs hn hf (t := b) fun i => h1 y hy _) (Nat.pow_le_pow_right (by decide) hb)
      · exact Nat.lt_of_lt_of_le (h1 y hy _) (Nat.pow_le_pow_right (by decide) (by omega))
    · obtain rfl := List.mem_singleton.mp hg
      show (if c = 0 then (m : Int) else 0).natAbs < _
      split
      · exact hm
      · exact Nat.two_pow_pos _
  · rcases List.mem_append.mp hg with hg | hg
    · obtain ⟨y, hy, rfl⟩ := List.mem_map.mp hg
      show (if c = 0 then dt n f (dn K y) else y (c - 1)) = 0
      rw [if_neg (by omega)]
      exact h2 y hy _ (by omega)
    · obtain rfl := List.mem_singleton.mp hg
      show (if c = 0 then (m : Int) else 0) = 0
      rw [if_neg (by omega)]
  · rw [spn_app, h3]
    constructor
    · rintro ⟨hx, k, hk⟩
      refine ⟨φ (up K x), fun c => -k * (if c = 0 then (m : Int) else 0), L.spn.mpr ⟨_, hx, fun _ => rfl⟩, spn_sing.mpr ⟨-k, fun _ => rfl⟩, fun c => ?_⟩
      show up (K + 1) x c = (if c = 0 then dt n f (dn K (up K x)) else up K x (c - 1)) + -k * (if c = 0 then (m : Int) else 0)
      by_cases h : c = 0
      · rw [if_pos h, if_pos h, dt_cast (v := x) (dn_up K x), hk, Int.neg_mul, Int.mul_comm]
        unfold up
        rw [if_pos (by omega)]
        omega
      · rw [if_neg h, if_neg h]
        unfold up
        by_cases h2 : c < K + 1
        · rw [if_pos h2, if_pos (by omega)]; simp
        · rw [if_neg h2, if_neg (by omega)]
          rw [show c - (K + 1) = c - 1 - K by omega]
          simp
    · rintro ⟨u, v, hu, hv, e⟩
      obtain ⟨z, hz, eu⟩ := L.spn.mp hu
      obtain ⟨k, ev⟩ := spn_sing.mp hv
      have ez : ∀ c, z c = up K x c := fun c => by
        have := e (c + 1)
        rw [eu, ev] at this
        have e1 : φ z (c + 1) = z c := by show (if c + 1 = 0 then _ else z (c + 1 - 1)) = z c; rw [if_neg (by omega)]; rfl
        rw [e1, if_neg (by omega), Int.mul_zero, Int.add_zero] at this
        rw [← this]
        unfold up
        by_cases h2 : c < K
        · rw [if_pos h2, if_pos (by omega)]
        · rw [if_neg h2, if_neg (by omega)]
          exact congrArg x (by omega)
      refine ⟨hz.cast ez, -k, ?_⟩
      have := e 0
      rw [eu, ev] at this
      have e1 : φ z 0 = dt n f x := by
        show dt n f (dn K z) = _
        exact dt_cast fun i => by
          have := ez (i + K)
          show z (i + K) = x i
          rw [this]
          exact dn_up K x i
      rw [e1, if_pos rfl] at this
      have e0 : up (K + 1) x 0 = 0 := by unfold up; rw [if_pos (by omega)]
      rw [e0] at this
      rw [Int.mul_neg, Int.mul_comm]
      omega
variable {Ka Kb : Nat} {B : Vf → Prop}
theorem Prs.join (P : Prs n Ka b A) (P' : Prs n Kb b B) : Prs n (Ka + Kb) b fun x => ∃ u v, A u ∧ B v ∧ ∀ c, x c = u c + v c := by
  obtain ⟨S, h1, h2, h3⟩ := P
  obtain ⟨T, k1, k2, k3⟩ := P'
  let φ : Vf → Vf := fun g c => if c < Ka then g c else if c < Ka + Kb then 0 else g (c - Kb)
  let ψ : Vf → Vf := up Ka
  have L : Lin φ := ⟨fun c => by show (if c < Ka then (0 : Int) else if c < Ka + Kb then 0 else 0) = 0; simp, fun k g v c => by
    show (if c < Ka then k * g c + v c else if c < Ka + Kb then 0 else k * g (c - Kb) + v (c - Kb)) = k * (if c < Ka then g c else if c < Ka + Kb then 0 else g (c - Kb)) + (if c < Ka then v c else if c < Ka + Kb then 0 else v (c - Kb))
    split
    · rfl
    · split
      · simp
      · rfl⟩
  have M : Lin ψ := ⟨fun c => by show up Ka _ c = 0; unfold up; split <;> rfl, fun k g v c => by show up Ka _ c = k * up Ka _ c + up Ka _ c; unfold up; split <;> simp⟩
  refine ⟨S.map φ ++ T.map ψ, fun g hg c => ?_, fun g hg c hc => ?_, fun x => ?_⟩
  · rcases List.mem_append.mp hg with hg | hg
    · obtain ⟨y, hy, rfl⟩ := List.mem_map.mp hg
      show (if c < Ka then y c else if c < Ka + Kb then 0 else y (c - Kb)).natAbs < _
      split
      · exact h1 y hy _
      · split
        · exact Nat.two_pow_pos _
        · exact h1 y hy _
    · obtain ⟨y, hy, rfl⟩ := List.mem_map.mp hg
      show (up Ka y c).natAbs < _
      unfold up
      split
      · exact Nat.two_pow_pos _
      · exact k1 y hy _
  · rcases List.mem_append.mp hg with hg | hg
    · obtain ⟨y, hy, rfl⟩ := List.mem_map.mp hg
      show (if c < Ka then y c else if c < Ka + Kb then 0 else y (c - Kb)) = 0
      rw [if_neg (by omega), if_neg (by omega)]
      exact h2 y hy _ (by omega)
    · obtain ⟨y, hy, rfl⟩ := List.mem_map.mp hg
      show up Ka y c = 0
      unfold up
      rw [if_neg (by omega)]
      exact k2 y hy _ (by omega)
  · rw [spn_app]
    constructor
    · rintro ⟨u, v, hu, hv, e⟩
      refine ⟨φ (up Ka u), ψ (up Kb v), L.spn.mpr ⟨_, (h3 u).mp hu, fun _ => rfl⟩, M.spn.mpr ⟨_, (k3 v).mp hv, fun _ => rfl⟩, fun c => ?_⟩
      show up (Ka + Kb) x c = (if c < Ka then up Ka u c else if c < Ka + Kb then 0 else up Ka u (c - Kb)) + up Ka (up Kb v) c
      unfold up
      by_cases h : c < Ka
      · rw [if_pos h, if_pos h, if_pos h, if_pos (by omega)]; rfl
      · by_cases h' : c < Ka + Kb
        · rw [if_neg h, if_pos h', if_pos h', if_neg h, if_pos (by omega)]; rfl
        · rw [if_neg h, if_neg h', if_neg h', if_neg h, if_neg (by omega), if_neg (by omega), e, show c - Kb - Ka = c - (Ka + Kb) by omega, show c - Ka - Kb = c - (Ka + Kb) by omega]
    · rintro ⟨u, v, hu, hv, e⟩
      obtain ⟨z, hz, eu⟩ := L.spn.mp hu
      obtain ⟨w, hw, ev⟩ := M.spn.mp hv
      have e1 : ∀ c, up (Ka + Kb) x c = (if c < Ka then z c else if c < Ka + Kb then 0 else z (c - Kb)) + (if c < Ka then 0 else w (c - Ka)) := fun c => by rw [e c, eu, ev]; rfl
      have z0 : ∀ c < Ka, z c = 0 := fun c hc => by
        have := e1 c
        unfold up at this
        rw [if_pos (by omega), if_pos hc, if_pos hc] at this
        omega
      have w0 : ∀ c < Kb, w c = 0 := fun c hc => by
        have := e1 (c + Ka)
        unfold up at this
        rw [if_pos (by omega), if_neg (by omega), if_pos (by omega), if_neg (by omega), show c + Ka - Ka = c by omega] at this
        omega
      refine ⟨dn Ka z, dn Kb w, (h3 _).mpr (hz.cast fun c => (up_dn z0 c).symm), (k3 _).mpr (hw.cast fun c => (up_dn w0 c).symm), fun c => ?_⟩
      have := e1 (c + (Ka + Kb))
      unfold up at this
      rw [if_neg (by omega), if_neg (by omega), if_neg (by omega), if_neg (by omega), show c + (Ka + Kb) - (Ka + Kb) = c by omega, show c + (Ka + Kb) - Kb = c + Ka by omega, show c + (Ka + Kb) - Ka = c + Kb by omega] at this
      exact this
theorem Prs.meet (P : Prs n Ka b A) (P' : Prs n Kb b B) : Prs n (Ka + Kb + n) b fun x => A x ∧ B x := by
  obtain ⟨S, h1, h2, h3⟩ := P
  obtain ⟨T, k1, k2, k3⟩ := P'
  let φ : Vf → Vf := fun g c => if c < Ka then g c else if c < Ka + Kb then 0 else if c < Ka + Kb + n then g (c - Kb) else g (c - Kb - n)
  let ψ : Vf → Vf := fun g c => if c < Ka then 0 else if c < Ka + Kb + n then -g (c - Ka) else 0
  have L : Lin φ := ⟨fun c => by show (if c < Ka then (0 : Int) else if c < Ka + Kb then 0 else if c < Ka + Kb + n then 0 else 0) = 0; simp, fun k g v c => by
    show (if c < Ka then k * g c + v c else if c < Ka + Kb then 0 else if c < Ka + Kb + n then k * g (c - Kb) + v (c - Kb) else k * g (c - Kb - n) + v (c - Kb - n)) = k * (if c < Ka then g c else if c < Ka + Kb then 0 else if c < Ka + Kb + n then g (c - Kb) else g (c - Kb - n)) + (if c < Ka then v c else if c < Ka + Kb then 0 else if c < Ka + Kb + n then v (c - Kb) else v (c - Kb - n))
    split
    · rfl
    · split
      · simp
      · split <;> rfl⟩
  have M : Lin ψ := ⟨fun c => by show (if c < Ka then (0 : Int) else if c < Ka + Kb + n then -0 else 0) = 0; simp, fun k g v c => by
    show (if c < Ka then (0 : Int) else if c < Ka + Kb + n then -(k * g (c - Ka) + v (c - Ka)) else 0) = k * (if c < Ka then (0 : Int) else if c < Ka + Kb + n then -g (c - Ka) else 0) + (if c < Ka then (0 : Int) else if c < Ka + Kb + n then -v (c - Ka) else 0)
    split
    · simp
    · split
      · rw [Int.mul_neg]; omega
      · simp⟩
  refine ⟨S.map φ ++ T.map ψ, fun g hg c => ?_, fun g hg c hc => ?_, fun x => ?_⟩
  · rcases List.mem_append.mp hg with hg | hg
    · obtain ⟨y, hy, rfl⟩ := List.mem_map.mp hg
      show (if c < Ka then y c else if c < Ka + Kb then 0 else if c < Ka + Kb + n then y (c - Kb) else y (c - Kb - n)).natAbs < _
      split
      · exact h1 y hy _
      · split
        · exact Nat.two_pow_pos _
        · split <;> exact h1 y hy _
    · obtain ⟨y, hy, rfl⟩ := List.mem_map.mp hg
      show (if c < Ka then (0 : Int) else if c < Ka + Kb + n then -y (c - Ka) else 0).natAbs < _
      split
      · exact Nat.two_pow_pos _
      · split
        · rw [Int.natAbs_neg]; exact k1 y hy _
        · exact Nat.two_pow_pos _
  · rcases List.mem_append.mp hg with hg | hg
    · obtain ⟨y, hy, rfl⟩ := List.mem_map.mp hg
      show (if c < Ka then y c else if c < Ka + Kb then 0 else if c < Ka + Kb + n then y (c - Kb) else y (c - Kb - n)) = 0
      rw [if_neg (by omega), if_neg (by omega), if_neg (by omega)]
      exact h2 y hy _ (by omega)
    · obtain ⟨y, hy, rfl⟩ := List.mem_map.mp hg
      show (if c < Ka then (0 : Int) else if c < Ka + Kb + n then -y (c - Ka) else 0) = 0
      rw [if_neg (by omega), if_neg (by omega)]
  · rw [spn_app]
    constructor
    · rintro ⟨hu, hv⟩
      have hu := (h3 x).mp hu
      have hv := (k3 x).mp hv
      have tx := spn_top h2 hu
      refine ⟨φ (up Ka x), ψ (up Kb x), L.spn.mpr ⟨_, hu, fun _ => rfl⟩, M.spn.mpr ⟨_, hv, fun _ => rfl⟩, fun c => ?_⟩
      show up (Ka + Kb + n) x c = (if c < Ka then up Ka x c else if c < Ka + Kb then 0 else if c < Ka + Kb + n then up Ka x (c - Kb) else up Ka x (c - Kb - n)) + (if c < Ka then (0 : Int) else if c < Ka + Kb + n then -up Kb x (c - Ka) else 0)
      unfold up
      by_cases h : c < Ka
      · rw [if_pos h, if_pos h, if_pos h, if_pos (by omega)]; rfl
      · by_cases h' : c < Ka + Kb
        · rw [if_neg h, if_pos h', if_neg h, if_pos (by omega), if_pos (by omega), if_pos (by omega)]; rfl
        · by_cases h'' : c < Ka + Kb + n
          · rw [if_neg h, if_neg h', if_pos h'', if_pos h'', if_neg h, if_pos h'', if_neg (by omega), if_neg (by omega), show c - Kb - Ka = c - Ka - Kb by omega]; omega
          · rw [if_neg h, if_neg h', if_neg h'', if_neg h'', if_neg h, if_neg h'', if_neg (by omega), show c - Kb - n - Ka = c - (Ka + Kb + n) by omega]; omega
    · rintro ⟨u, v, hu, hv, e⟩
      obtain ⟨z, hz, eu⟩ := L.spn.mp hu
      obtain ⟨w, hw, ev⟩ := M.spn.mp hv
      have e1 : ∀ c, up (Ka + Kb + n) x c = (if c < Ka then z c else if c < Ka + Kb then 0 else if c < Ka + Kb + n then z (c - Kb) else z (c - Kb - n)) + (if c < Ka then (0 : Int) else if c < Ka + Kb + n then -w (c - Ka) else 0) := fun c => by rw [e c, eu, ev]
      have z0 : ∀ c < Ka, z c = 0 := fun c hc => by
        have := e1 c
        unfold up at this
        rw [if_pos (by omega), if_pos hc, if_pos hc] at this
        omega
      have w0 : ∀ c < Kb, w c = 0 := fun c hc => by
        have := e1 (c + Ka)
        unfold up at this
        rw [if_pos (by omega), if_neg (by omega), if_pos (by omega), if_neg (by omega), if_pos (by omega), show c + Ka - Ka = c by omega] at this
        omega
      have zx : ∀ c, z (c + Ka) = x c := fun c => by
        have := e1 (c + (Ka + Kb + n))
        unfold up at this
        rw [if_neg (by omega), if_neg (by omega), if_neg (by omega), if_neg (by omega), if_neg (by omega), if_neg (by omega), show c + (Ka + Kb + n) - (Ka + Kb + n) = c by omega, show c + (Ka + Kb + n) - Kb - n = c + Ka by omega] at this
        omega
      have wx : ∀ c, w (c + Kb) = x c := fun c => by
        by_cases hc : c < n
        · have := e1 (c + (Ka + Kb))
          unfold up at this
          rw [if_pos (by omega), if_neg (by omega), if_neg (by omega), if_pos (by omega), if_neg (by omega), if_pos (by omega), show c + (Ka + Kb) - Kb = c + Ka by omega, show c + (Ka + Kb) - Ka = c + Kb by omega, zx c] at this
          omega
        · rw [← zx c, spn_top h2 hz _ (by omega), spn_top k2 hw _ (by omega)]
      refine ⟨(h3 _).mpr (hz.cast fun c => ?_), (k3 _).mpr (hw.cast fun c => ?_)⟩
      · rw [← up_dn z0 c]
        exact congrArg (fun y => up Ka y c) (funext zx)
      · rw [← up_dn w0 c]
        exact congrArg (fun y => up Kb y c) (funext wx)
end
end Lat

/-! classes of a lattice modulo another one -/
namespace Lat
open Mir
/-- there are N elements of L, no two alike modulo M -/
def Inc (L M : Vf → Prop) (N : Nat) : Prop := ∃ rep : Nat → Vf, (∀ i < N, L (rep i)) ∧ ∀ i j, i < j → j < N → ¬ M fun c => rep j c - rep i c
theorem Inc.le {L M : Vf → Prop} {N N' : Nat} (h : Inc L M N) (hl : N' ≤ N) : Inc L M N' := by
  obtain ⟨r, h1, h2⟩ := h
  exact ⟨r, fun i hi => h1 i (by omega), fun i j hij hj => h2 i j hij (by omega)⟩
/-- N classes, 0 if there are infinitely many -/
def Cc (L M : Vf → Prop) (N : Nat) : Prop := (N ≠ 0 ∧ Inc L M N ∧ ¬ Inc L M (N + 1)) ∨ (N = 0 ∧ ∀ k, Inc L M k)
theorem Cc.eq {L M L' M' : Vf → Prop} {N N' : Nat} (h : Cc L M N) (h' : Cc L' M' N') (e : ∀ k, Inc L M k ↔ Inc L' M' k) : N = N' := by
  rcases h with ⟨z, i, j⟩ | ⟨z, i⟩ <;> rcases h' with ⟨z', i', j'⟩ | ⟨z', i'⟩
  · rcases Nat.lt_trichotomy N N' with l | l | l
    · exact absurd (((e _).mpr i').le (by omega)) j
    · exact l
    · exact absurd (((e _).mp i).le (by omega)) j'
  · exact absurd ((e _).mpr (i' _)) j
  · exact absurd ((e _).mp (i _)) j'
  · omega
theorem Inc.iso {A B E : Vf → Prop} (hE : ∀ x, E x ↔ ∃ u v, A u ∧ B v ∧ ∀ c, x c = u c + v c) (a0 : A fun _ => 0) (as : ∀ u v, A u → A v → A fun c => u c - v c) (bs : ∀ u v, B u → B v → B fun c => u c - v c) (k : Nat) :
    Inc E A k ↔ Inc B (fun x => A x ∧ B x) k := by
  have ac : ∀ {u v : Vf}, A u → (∀ c, u c = v c) → A v := fun h e => (funext e : _ = _) ▸ h
  constructor
  · rintro ⟨rep, h1, h2⟩
    have : ∀ i, ∃ v, i < k → B v ∧ ∃ u, A u ∧ ∀ c, rep i c = u c + v c := fun i => by
      by_cases hi : i < k
      · obtain ⟨u, v, hu, hv, e⟩ := (hE _).mp (h1 i hi)
        exact ⟨v, fun _ => ⟨hv, u, hu, e⟩⟩
      · exact ⟨fun _ => 0, fun h => absurd h hi⟩
    let rep' (i : Nat) : Vf := Classical.choose (this i)
    have sp : ∀ i < k, B (rep' i) ∧ ∃ u, A u ∧ ∀ c, rep i c = u c + rep' i c := fun i hi => Classical.choose_spec (this i) hi
    refine ⟨rep', fun i hi => (sp i hi).1, fun i j hij hj hm => h2 i j hij hj ?_⟩
    obtain ⟨u, hu, eu⟩ := (sp i (by omega)).2
    obtain ⟨w, hw, ew⟩ := (sp j hj).2
    have d := as _ _ hw hu
    have s := as _ _ d (as _ _ a0 hm.1)
    exact ac s fun c => by rw [eu, ew]; omega
  · rintro ⟨rep, h1, h2⟩
    refine ⟨rep, fun i hi => (hE _).mpr ⟨_, _, a0, h1 i hi, fun c => by omega⟩, fun i j hij hj hm => h2 i j hij hj ⟨hm, bs _ _ (h1 j hj) (h1 i (by omega))⟩⟩

/-! ### a full basis of k entries -/
def pN (C : List (List Int)) : Nat → Nat → Int
  | _, 0 => 1
  | j, t + 1 => ent C j j * pN C (j + 1) t
section
variable {k : Nat} {C : List (List Int)}
/-- representatives of the vectors that are zero before j -/
theorem reps_ex (B : IsB k C) (hl : C.length = k) (hp : ∀ i < k, pv (C.getD i []) = i) : ∀ t j, j + t = k → ∃ N : Nat, pN C j t = N ∧ 0 < N ∧ ∃ rep : Nat → Vf, (∀ i c, c < j → rep i c = 0) ∧ (∀ i c, k ≤ c → rep i c = 0) ∧
    (∀ i i', i < i' → i' < N → ¬ Spn (Rows C) fun c => rep i' c - rep i c) ∧ ∀ x : Vf, (∀ c < j, x c = 0) → (∀ c, k ≤ c → x c = 0) → ∃ i < N, Spn (Rows C) fun c => x c - rep i c := by
  intro t
  induction t with
  | zero =>
    intro j hj
    refine ⟨1, rfl, by decide, fun _ _ => 0, fun _ _ _ => rfl, fun _ _ _ => rfl, fun i i' h h' => by omega, fun x h1 h2 => ⟨0, by decide, Spn.zero.cast fun c => ?_⟩⟩
    by_cases h : c < j
    · rw [h1 c h]; rfl
    · rw [h2 c (by omega)]; rfl
  | succ t ih =>
    intro j hj
    obtain ⟨N, eN, N0, rep, r1, r2, r3, r4⟩ := ih (j + 1) (by omega)
    have hjk : j < k := by omega
    have mj : C.getD j [] ∈ C := getD_mem (by omega)
    have pj : pv (C.getD j []) = j := hp j hjk
    have pp := IsB.pp B mj
    rw [pj] at pp
    obtain ⟨p, ep⟩ : ∃ p : Nat, ent C j j = p := ⟨(ent C j j).toNat, by have : 0 < ent C j j := pp; omega⟩
    have p0 : 0 < p := by have : 0 < ent C j j := pp; omega
    have cj : ∀ c < j, vf (C.getD j []) c = 0 := fun c hc => IsB.pz c (by rw [pj]; exact hc)
    have cjj : vf (C.getD j []) j = p := ep
    have ob : ofB C j = some (vf (C.getD j [])) := by have := IsB.of B mj; rwa [pj] at this
    have lead : ∀ {x : Vf}, Spn (Rows C) x → (∀ c < j, x c = 0) → (p : Int) ∣ x j := fun hx hz => by
      have := (ech_lead (IsB.ech B) (hx.mono fun x hx => (IsB.er B).mpr hx) hz).1 _ ob
      rwa [cjj] at this
    refine ⟨p * N, by rw [pN, ep, eN]; simp, Nat.mul_pos p0 N0, fun i c => (if c = j then ((i % p : Nat) : Int) else 0) + rep (i / p) c, fun i c hc => ?_, fun i c hc => ?_, fun i i' h h' hm => ?_, fun x h1 h2 => ?_⟩
    · dsimp only
      rw [if_neg (by omega), r1 _ c (by omega)]; rfl
    · dsimp only
      rw [if_neg (by omega), r2 _ c hc]; rfl
    · have dv := lead hm fun c hc => by
        dsimp only
        rw [if_neg (by omega), if_neg (by omega), r1 _ c (by omega), r1 _ c (by omega)]; rfl
      dsimp only at dv
      rw [if_pos rfl, if_pos rfl, r1 _ j (by omega), r1 _ j (by omega)] at dv
      have b1 := Nat.mod_lt i p0
      have b2 := Nat.mod_lt i' p0
      have e := dvd_small dv (by omega) (by omega)
      have e : i % p = i' % p := by omega
      have hm' : Spn (Rows C) fun c => rep (i' / p) c - rep (i / p) c := hm.cast fun c => by
        dsimp only
        rw [e]
        omega
      have d1 := Nat.div_add_mod i p
      have d2 := Nat.div_add_mod i' p
      have le := Nat.div_le_div_right (c := p) (Nat.le_of_lt h)
      refine r3 _ _ (Nat.lt_of_le_of_ne le fun z => ?_) ?_ hm'
      · rw [z] at d1; omega
      · exact Nat.div_lt_of_lt_mul h'
    · obtain ⟨a, ea⟩ : ∃ a : Nat, x j % p = a := ⟨(x j % p).toNat, by have := Int.emod_nonneg (x j) (show (p : Int) ≠ 0 by omega); omega⟩
      have al : a < p := by have := Int.emod_lt_of_pos (x j) (show (0 : Int) < p by omega); omega
      have dm := Int.mul_ediv_add_emod (x j) p
      obtain ⟨i, hi, hs⟩ := r4 (fun c => x c - x j / p * vf (C.getD j []) c - (if c = j then (a : Int) else 0)) (fun c hc => by
        by_cases h : c = j
        · subst h
          rw [if_pos rfl, cjj, Int.mul_comm]
          omega
        · rw [if_neg h, h1 c (by omega), cj c (by omega)]
          simp) fun c hc => by
        rw [if_neg (by omega), h2 c hc, vf_top (B.len _ mj) c hc]
        simp
      refine ⟨a + p * i, ?_, ?_⟩
      · have : p * (i + 1) ≤ p * N := Nat.mul_le_mul_left p hi
        rw [Nat.mul_add] at this
        omega
      · have e1 : (a + p * i) % p = a := by rw [Nat.add_mul_mod_self_left, Nat.mod_eq_of_lt al]
        have e2 : (a + p * i) / p = i := by rw [Nat.add_mul_div_left _ _ p0, Nat.div_eq_of_lt al, Nat.zero_add]
        show Spn (Rows C) fun c => x c - ((if c = j then (((a + p * i) % p : Nat) : Int) else 0) + rep ((a + p * i) / p) c)
        rw [e1, e2]
        refine (hs.plus ((Spn.of ⟨_, mj, rfl⟩).mul (x j / p))).cast fun c => ?_
        omega
end
/-! ### coordinates -/
section
variable {n : Nat} {rs ss cs C : List (List Int)}
def th (rs : List (List Int)) (z : Vf) : Vf := fun j => sm rs.length fun i => z i * vf (rs.getD i []) j
theorem th_lin (rs : List (List Int)) : Lin (th rs) := ⟨fun c => sm_zero fun i _ => by simp, fun k g v c => by
  unfold th
  rw [← sm_mul, ← sm_add]
  refine sm_congr fun i _ => ?_
  dsimp only
  rw [Int.add_mul, Int.mul_assoc]⟩
theorem th_mem (z : Vf) : Spn (Rows rs) (th rs z) := by
  unfold th
  exact Spn.sm' fun i hi => .of ⟨_, getD_mem hi, rfl⟩
theorem th_rep {x : Vf} (h : Spn (Rows rs) x) : ∃ z : Vf, (∀ i, rs.length ≤ i → z i = 0) ∧ ∀ c, x c = th rs z c := by
  induction h with
  | zero => exact ⟨fun _ => 0, fun _ _ => rfl, fun c => ((th_lin rs).zero c).symm⟩
  | @add g w k hg _ ih =>
    obtain ⟨z, hz, e⟩ := ih
    obtain ⟨r, hr, rfl⟩ := hg
    obtain ⟨i, hi, rfl⟩ := mem_getD (d := []) hr
    refine ⟨fun j => k * (if j = i then 1 else 0) + z j, fun j hj => ?_, fun c => ?_⟩
    · dsimp only
      rw [if_neg (by omega), hz j hj]
      simp
    · rw [(th_lin rs).add, ← e]
      have : th rs (fun j => if j = i then 1 else 0) c = vf (rs.getD i []) c := by
        unfold th
        rw [sm_one hi fun j hj hne => by dsimp only; rw [if_neg hne, Int.zero_mul]]
        dsimp only
        rw [if_pos rfl, Int.one_mul]
      rw [this]
theorem piv_sub (B : IsB n rs) (B' : IsB n ss) (hs : ∀ x, Rows ss x → Spn (Rows rs) x) : ∀ s ∈ ss, ∃ r ∈ rs, pv r = pv s := by
  intro s hs'
  have hx := (hs _ ⟨s, hs', rfl⟩).mono fun x hx => (IsB.er B).mpr hx
  have l := ech_lead (IsB.ech B) hx (c := pv s) IsB.pz
  have := IsB.pp B' hs'
  cases e : ofB rs (pv s) with
  | none => have := l.2 e; omega
  | some y =>
    obtain ⟨r, hr, ep, _⟩ := ofB_some e
    exact ⟨r, hr, ep⟩
theorem piv_all (B : IsB n rs) (B' : IsB n ss) (hs : ∀ s ∈ ss, ∃ r ∈ rs, pv r = pv s) (hl : rs.length = ss.length) : ∀ r ∈ rs, ∃ s ∈ ss, pv s = pv r := by
  have e : ss.map pv = (rs.map pv).filter fun p => decide (p ∈ ss.map pv) := by
    refine eq_of_asc id (by rw [List.map_id]; exact B'.asc) (by rw [List.map_id]; exact B.asc.filter _) fun p => ?_
    rw [List.mem_filter, decide_eq_true_iff]
    constructor
    · intro h
      obtain ⟨s, hs', rfl⟩ := List.mem_map.mp h
      obtain ⟨r, hr, ep⟩ := hs s hs'
      exact ⟨List.mem_map.mpr ⟨r, hr, ep⟩, h⟩
    · exact fun h => h.2
  have el := congrArg List.length e
  rw [List.length_map, ← hl, ← List.length_map (f := pv) (as := rs)] at el
  have := List.length_filter_eq_length_iff.mp el.symm
  intro r hr
  have := this _ (List.mem_map.mpr ⟨r, hr, rfl⟩)
  rw [decide_eq_true_iff] at this
  obtain ⟨s, hs', e⟩ := List.mem_map.mp this
  exact ⟨s, hs', e⟩
theorem cc_inf (B : IsB n rs) (B' : IsB n ss) (hs : ∀ x, Rows ss x → Spn (Rows rs) x) (hl : rs.length ≠ ss.length) : Cc (Spn (Rows rs)) (Spn (Rows ss)) 0 := by
  have : ∃ r ∈ rs, ∀ k : Int, 0 < k → ¬ Spn (Rows ss) fun c => k * vf r c := by
    refine Classical.byContradiction fun no => hl ?_
    have p1 := piv_sub B B' hs
    have p2 : ∀ r ∈ rs, ∃ s ∈ ss, pv s = pv r := fun r hr => by
      have : ∃ k : Int, 0 < k ∧ Spn (Rows ss) fun c => k * vf r c := Classical.byContradiction fun z => no ⟨r, hr, fun k hk h => z ⟨k, hk, h⟩⟩
      obtain ⟨k, hk, h⟩ := this
      have l := ech_lead (IsB.ech B') (h.mono fun x hx => (IsB.er B').mpr hx) (c := pv r) fun j hj => by
        rw [IsB.pz j hj, Int.mul_zero]
      have pp := IsB.pp B hr
      have := Int.mul_pos hk pp
      cases e : ofB ss (pv r) with
      | none => have := l.2 e; omega
      | some y =>
        obtain ⟨s, hs', ep, _⟩ := ofB_some e
        exact ⟨s, hs', ep⟩
    have : rs.map pv = ss.map pv := by
      refine eq_of_asc id (by rw [List.map_id]; exact B.asc) (by rw [List.map_id]; exact B'.asc) fun p => ⟨fun h => ?_, fun h => ?_⟩
      · obtain ⟨r, hr, rfl⟩ := List.mem_map.mp h
        obtain ⟨s, hs', e⟩ := p2 r hr
        exact List.mem_map.mpr ⟨s, hs', e⟩
      · obtain ⟨s, hs', rfl⟩ := List.mem_map.mp h
        obtain ⟨r, hr, e⟩ := p1 s hs'
        exact List.mem_map.mpr ⟨r, hr, e⟩
    have := congrArg List.length this
    rwa [List.length_map, List.length_map] at this
  obtain ⟨r, hr, hk⟩ := this
  refine .inr ⟨rfl, fun K => ⟨fun i c => (i : Int) * vf r c, fun i _ => (Spn.of ⟨r, hr, rfl⟩).mul _, fun i j hij hj hm => hk ((j : Int) - i) (by omega) (hm.cast fun c => ?_)⟩⟩
  dsimp only
  rw [Int.sub_mul]
/-- what the coordinates' basis looks like -/
theorem co_full (B : IsB n rs) (B' : IsB n ss) (hs : ∀ x, Rows ss x → Spn (Rows rs) x) (hl : rs.length = ss.length) (hc : cs.length = ss.length) (hcl : ∀ c ∈ cs, c.length = rs.length) (he : ∀ i < ss.length, ∀ j, vf (ss.getD i []) j = th rs (vf (cs.getD i [])) j)
    (BC : IsB rs.length C) (t : Sm cs C) : C.length = rs.length ∧ ∀ i < rs.length, pv (C.getD i []) = i := by
  have p2 := piv_all B B' (piv_sub B B' hs) hl
  have hm : ∀ i < rs.length, i ∈ C.map pv := fun i hi => by
    have mi : rs.getD i [] ∈ rs := getD_mem hi
    obtain ⟨s, hs', ep⟩ := p2 _ mi
    obtain ⟨q, hq, rfl⟩ := mem_getD (d := []) hs'
    have e := he q hq
    have at' : ∀ j, j < rs.length → (∀ l < j, vf (cs.getD q []) l = 0) → vf (ss.getD q []) (pv (rs.getD j [])) = vf (cs.getD q []) j * vf (rs.getD j []) (pv (rs.getD j [])) := fun j hj hz => by
      rw [e]
      unfold th
      refine sm_one hj fun l hl hne => ?_
      by_cases h : l < j
      · rw [hz l h, Int.zero_mul]
      · rw [IsB.pz _ (IsB.lt B (show j < l by omega) hl), Int.mul_zero]
    have z : ∀ j, j < i → vf (cs.getD q []) j = 0 := fun j => by
      induction j using Nat.strongRecOn with
      | _ j ih =>
        intro hj
        have a := at' j (by omega) fun l hl => ih l hl (by omega)
        rw [IsB.pz _ (by rw [ep]; exact IsB.lt B hj hi)] at a
        have pp := IsB.pp B (getD_mem (d := []) (show j < rs.length by omega))
        rcases Int.mul_eq_zero.mp a.symm with h | h
        · exact h
        · omega
    have nz : vf (cs.getD q []) i ≠ 0 := fun h => by
      have a := at' i hi z
      rw [h, Int.zero_mul, ← ep] at a
      have := IsB.pp B' hs'
      omega
    have l := ech_lead (IsB.ech BC) ((t.1 _ (.of (getD_mem (d := []) (show q < cs.length by omega)))).mono fun x hx => (IsB.er BC).mpr hx) (c := i) z
    cases e : ofB C i with
    | none => exact absurd (l.2 e) nz
    | some y =>
      obtain ⟨c, hcC, ep, _⟩ := ofB_some e
      exact List.mem_map.mpr ⟨c, hcC, ep⟩
  have e : C.map pv = List.range rs.length := by
    refine eq_of_asc id (by rw [List.map_id]; exact BC.asc) (by rw [List.map_id]; exact List.pairwise_lt_range) fun p => ⟨fun h => ?_, fun h => hm p (List.mem_range.mp h)⟩
    obtain ⟨c, hcC, rfl⟩ := List.mem_map.mp h
    exact List.mem_range.mpr (BC.piv c hcC)
  have el := congrArg List.length e
  rw [List.length_map, List.length_range] at el
  refine ⟨el, fun i hi => ?_⟩
  have := congrArg (fun l => l[i]?) e
  simp only [List.getElem?_map, List.getElem?_range hi] at this
  rw [List.getD_eq_getElem?_getD]
  rw [List.getElem?_eq_getElem (by omega)] at this ⊢
  exact Option.some.inj this
theorem cc_fin (B : IsB n rs) (B' : IsB n ss) (hs : ∀ x, Rows ss x → Spn (Rows rs) x) (hl : rs.length = ss.length) (hc : cs.length = ss.length) (hcl : ∀ c ∈ cs, c.length = rs.length) (he : ∀ i < ss.length, ∀ j, vf (ss.getD i []) j = th rs (vf (cs.getD i [])) j)
    (BC : IsB rs.length C) (t : Sm cs C) : ∃ N : Nat, pN C 0 rs.length = N ∧ Cc (Spn (Rows rs)) (Spn (Rows ss)) N := by
  obtain ⟨l1, l2⟩ := co_full B B' hs hl hc hcl he BC t
  obtain ⟨N, eN, N0, rep, r1, r2, r3, r4⟩ := reps_ex BC l1 l2 rs.length 0 (by omega)
  have up1 : ∀ {w : Vf}, Spn (Rows C) w → Spn (Rows ss) (th rs w) := fun {w} hw => by
    have hw : Spn (· ∈ cs.map vf) w := by rw [← rows_list]; exact (t.iff w).mpr hw
    have := (th_lin rs).spn.mpr ⟨w, hw, fun _ => rfl⟩
    refine this.bind fun y hy => ?_
    obtain ⟨u, hu, rfl⟩ := List.mem_map.mp hy
    obtain ⟨c, hcc, rfl⟩ := List.mem_map.mp hu
    obtain ⟨i, hi, rfl⟩ := mem_getD (d := []) hcc
    exact (Spn.of (S := Rows ss) ⟨_, getD_mem (d := []) (show i < ss.length by omega), rfl⟩).cast fun j => he i (by omega) j
  have dn1 : ∀ {z : Vf}, (∀ i, rs.length ≤ i → z i = 0) → Spn (Rows ss) (th rs z) → Spn (Rows C) z := fun {z} hz h => by
    have : ∃ w, Spn (· ∈ cs.map vf) w ∧ ∀ c, th rs z c = th rs w c := by
      refine (th_lin rs).spn.mp (h.bind fun y hy => ?_)
      obtain ⟨s, hs', rfl⟩ := hy
      obtain ⟨i, hi, rfl⟩ := mem_getD (d := []) hs'
      exact (Spn.of (S := (· ∈ (cs.map vf).map (th rs))) (List.mem_map.mpr ⟨vf (cs.getD i []), List.mem_map.mpr ⟨_, getD_mem (d := []) (show i < cs.length by omega), rfl⟩, rfl⟩)).cast fun j => (he i hi j).symm
    obtain ⟨w, hw, e⟩ := this
    have tw := spn_top (S := cs.map vf) (d := rs.length) (fun g hg c hcc => by
      obtain ⟨u, hu, rfl⟩ := List.mem_map.mp hg
      exact vf_top (hcl u hu) c hcc) hw
    have fr := IsB.free B (f := z) (g := w) fun j => e j
    rw [← rows_list] at hw
    refine ((t.iff w).mp hw).cast fun i => ?_
    by_cases hi : i < rs.length
    · exact (fr i hi).symm
    · rw [hz i (by omega), tw i (by omega)]
  have ths : ∀ (u v : Vf) (c : Nat), th rs (fun c => u c - v c) c = th rs u c - th rs v c := fun u v c => by
    have := (th_lin rs).add (-1) v u c
    rw [show (fun c => -1 * v c + u c) = fun c => u c - v c from funext fun c => by omega] at this
    rw [this]
    omega
  refine ⟨N, eN, .inl ⟨by omega, ⟨fun i => th rs (rep i), fun i _ => th_mem _, fun i j hij hj hm => r3 i j hij hj (dn1 (fun c hcc => by rw [r2 _ c hcc, r2 _ c hcc]; rfl) (hm.cast fun c => (ths _ _ c).symm))⟩, ?_⟩⟩
  rintro ⟨rp, h1, h2⟩
  have : ∀ i, ∃ q, i < N + 1 → q < N ∧ Spn (Rows ss) fun c => rp i c - th rs (rep q) c := fun i => by
    by_cases hi : i < N + 1
    · obtain ⟨z, hz, e⟩ := th_rep (h1 i hi)
      obtain ⟨q, hq, hsq⟩ := r4 z (fun c hcc => absurd hcc (Nat.not_lt_zero _)) hz
      exact ⟨q, fun _ => ⟨hq, (up1 hsq).cast fun c => by rw [ths, ← e]⟩⟩
    · exact ⟨0, fun h => absurd h hi⟩
  let f (i : Nat) : Nat := Classical.choose (this i)
  have hf : ∀ i < N + 1, f i < N ∧ Spn (Rows ss) fun c => rp i c - th rs (rep (f i)) c := fun i hi => Classical.choose_spec (this i) hi
  obtain ⟨i, j, hij, hj, e⟩ := pigeon (Nat.lt_succ_self N) f fun i hi => (hf i hi).1
  refine h2 i j hij hj ?_
  have a := (hf i (by omega)).2
  have b := (hf j hj).2
  rw [e] at a
  exact (b.sub a).cast fun c => by omega
end
end Lat

namespace Lat
open PySem PySem.Spec PyProof.Rows L2 Mir

noncomputable def hb_is_integer : SM := (sRet (eAnd (eUn (isiD ["int"]) (eVar 0)) (eNot (eUn (isiD ["bool"]) (eVar 0)))))
noncomputable def hm_is_integer : List D → M D := runB 1 hb_is_integer
noncomputable def hb_is_form : SM := (sRet (eAnd (eUn (isiD ["tuple"]) (eVar 0)) (eAnd (eOp (eqD false) (eFn (fn1 lenD) (aCons (eVar 0) aNil)) (eVar 1)) (eFn (fn1 allD) (aCons (eLC (itSeq (eVar 0)) (.name 2) (fun _ => pure true) (eCall 1 hm_is_integer [] (aCons (eVar 2) aNil)) [2]) aNil)))))
noncomputable def hm_is_form : List D → M D := runB 3 hb_is_form
noncomputable def hb_is_basis : SM := (sSeq (sIf (tOrM (tNotM (tst (eUn (isiD ["tuple"]) (eVar 0)))) (tNotM (tst (eFn (fn1 allD) (aCons (eLC (itSeq (eVar 0)) (.name 6) (fun _ => pure true) (eCall 2 hm_is_form [] (aCons (eVar 6) (aCons (eVar 1) aNil))) [6]) aNil))))) (sRet (eC (.bl false))) sNil) (sSeq (sSet (.name 2) (eLC (itSeq (eVar 0)) (.name 6) (fun _ => pure true) (eCall 1 hm_pivot_of [] (aCons (eVar 6) aNil)) [6])) (sSeq (sIf (tOrM (tst (eOp (inD false) (eC .non) (eVar 2))) (tOrM (tst (eOp (eqD true) (eVar 2) (eFn (fn1 sortedU) (aCons (eVar 2) aNil)))) (tst (eOp (eqD true) (eUn lenSetD (eVar 2)) (eFn (fn1 lenD) (aCons (eVar 2) aNil)))))) (sRet (eC (.bl false))) sNil) (sSeq (sFor (itEnum (eVar 2)) (.tup [(.name 3), (.name 4)]) (sSeq (sSet (.name 5) (eOp ixD (eOp ixD (eVar 0) (eVar 3)) (eVar 4))) (sIf (tOrM (tst (eOp ltD (eVar 5) (eC (.int 0)))) (tNotM (tst (eFn (fn1 allD) (aCons (eLC (itSeq (eSlice (eVar 0) oNone (oSome (eVar 3)))) (.name 6) (fun _ => pure true) (eChain leD ltD (eC (.int 0)) (eOp ixD (eVar 6) (eVar 4)) (eVar 5)) [6]) aNil))))) (sRet (eC (.bl false))) sNil))) (sRet (eC (.bl true)))))))
noncomputable def hm_is_basis : List D → M D := runB 7 hb_is_basis
noncomputable def hb_join_of : SM := (sRet (eCall 2 hm_hermite [] (aCons (eOp addD (eFn (fn1 tupleD) (aCons (eVar 0) aNil)) (eFn (fn1 tupleD) (aCons (eVar 1) aNil))) (aCons (eVar 2) aNil))))
noncomputable def hm_join_of : List D → M D := runB 3 hb_join_of
noncomputable def hb_tails_of : SM := (sSeq (sSet (.name 3) (eCall 2 hm_hermite [] (aCons (eVar 0) (aCons (eOp addD (eVar 1) (eVar 2)) aNil)))) (sRet (eFn (fn1 tupleD) (aCons (eFrz (eLC (itSeq (eVar 3)) (.name 4) (tst (eOp geD (eCall 1 hm_pivot_of [] (aCons (eVar 4) aNil)) (eVar 1))) (eSlice (eVar 4) (oSome (eVar 1)) oNone) [4])) aNil))))
noncomputable def hm_tails_of : List D → M D := runB 5 hb_tails_of
noncomputable def hb_meet_of : SM := (sSeq (sSet (.name 3) (eOp repD (eTup (aCons (eC (.int 0)) aNil)) (eVar 2))) (sSeq (sSet (.name 4) (eOp addD (eFrz (eLC (itSeq (eVar 0)) (.name 5) (fun _ => pure true) (eOp addD (eFn (fn1 tupleD) (aCons (eVar 5) aNil)) (eFn (fn1 tupleD) (aCons (eVar 5) aNil))) [5])) (eFrz (eLC (itSeq (eVar 1)) (.name 5) (fun _ => pure true) (eOp addD (eFn (fn1 tupleD) (aCons (eVar 5) aNil)) (eVar 3)) [5])))) (sRet (eCall 3 hm_tails_of [] (aCons (eVar 4) (aCons (eVar 2) (aCons (eVar 2) aNil)))))))
noncomputable def hm_meet_of : List D → M D := runB 6 hb_meet_of
noncomputable def hb_class_count : SM := (sSeq (sIf (tNotM (tst (eCall 2 hm_includes [] (aCons (eVar 0) (aCons (eVar 1) aNil))))) (fun _ => bad) sNil) (sSeq (sIf (tst (eOp (eqD true) (eFn (fn1 lenD) (aCons (eVar 0) aNil)) (eFn (fn1 lenD) (aCons (eVar 1) aNil)))) (sRet (eC (.int 0))) sNil) (sSeq (sSet (.name 2) (eC (.int 1))) (sSeq (sFor (itEnum (eCall 2 hm_hermite [] (aCons (eFrz (eLC (itSeq (eVar 1)) (.name 4) (fun _ => pure true) (eCall 2 hm_coordinates [] (aCons (eVar 0) (aCons (eVar 4) aNil))) [4])) (aCons (eFn (fn1 lenD) (aCons (eVar 0) aNil)) aNil)))) (.tup [(.name 3), (.name 4)]) (sAug 2 mulD (eOp ixD (eVar 4) (eVar 3)))) (sRet (eVar 2))))))
noncomputable def hm_class_count : List D → M D := runB 5 hb_class_count
noncomputable def hb__law_form : SM := (sRet (eFn (fn1 tupleD) (aCons (eFrz (eLC (itR1 (eVar 1)) (.name 2) (fun _ => pure true) (eOp subD (eCall 2 hm__law_draw [] (aCons (eVar 0) (aCons (eC (.int 19)) aNil))) (eC (.int 9))) [2])) aNil)))
noncomputable def hm__law_form : List D → M D := runB 3 hb__law_form
noncomputable def hb__law_common : SM := (sSeq (sPar 0 1 (eFn (fn1 absD) (aCons (eVar 0) aNil)) (eFn (fn1 absD) (aCons (eVar 1) aNil))) (sSeq (sWhile (tst (eOp gtD (eVar 1) (eC (.int 0)))) (sPar 0 1 (eVar 1) (eOp modD (eVar 0) (eVar 1)))) (sRet (eVar 0))))
noncomputable def hm__law_common : List D → M D := runB 2 hb__law_common

local macro_rules | `(tactic| walk_at "wp") => `(tactic| repeat (first
  | with_reducible refine ws_seq ?_
  | with_reducible refine ws_set ?_
  | with_reducible refine ws_ret ?_
  | with_reducible refine ws_if ?_
  | with_reducible refine ws_setI ?_
  | with_reducible refine ws_expr ?_
  | with_reducible refine ws_nil ?_
  | with_reducible refine wp_var (by with_unfolding_all rfl) ?_
  | with_reducible refine wp_c ?_
  | with_reducible refine wp_op ?_
  | with_reducible refine wp_un ?_
  | with_reducible refine wp_and ?_
  | with_reducible refine wp_or ?_
  | with_reducible refine wp_not ?_
  | with_reducible refine wp_tst ?_
  | with_reducible refine wp_tand ?_
  | with_reducible refine wp_tor ?_
  | with_reducible refine wp_tnot ?_
  | with_reducible refine wp_chain ?_
  | with_reducible refine wp_ife ?_
  | with_reducible refine wa_nil ?_
  | with_reducible refine wa_cons ?_
  | with_reducible refine wp_lst ?_
  | with_reducible refine wp_tup ?_
  | with_reducible refine wp_new ?_
  | with_reducible refine wp_fn ?_
  | with_reducible refine wp_fn1 ?_
  | with_reducible refine wp_call ?_
  | with_reducible refine wp_lm ?_
  | with_reducible refine wp_slice ?_
  | with_reducible refine wo_none ?_
  | with_reducible refine wo_some ?_
  | with_reducible refine wi_seq ?_
  | with_reducible refine wi_enum ?_
  | with_reducible refine wi_rng1 ?_
  | with_reducible refine wi_rng2 ?_
  | with_reducible refine wp_addI ?_
  | with_reducible refine wp_subI ?_
  | with_reducible refine wp_negI ?_
  | with_reducible refine wp_gtI ?_
  | with_reducible refine wp_ltI ?_
  | with_reducible refine wp_geI ?_
  | with_reducible refine wp_leI ?_
  | with_reducible refine wp_eqF ?_
  | with_reducible refine wp_neF ?_
  | with_reducible refine ex_bl ?_
  | (with_reducible refine if_tt ?_)
  | (with_reducible refine if_ff ?_)))
theorem wp_sortedL {p : Nat} {xs : List D} {bs : List Int} {st : Sto} {Q : D → Sto → Prop} (g : st[p]? = some (.lst xs)) (hb : asInts xs = some bs) (q : Q (.lst ((sortI bs).map .int)) st) : Wp (sortedU (.obj p)) st Q :=
  ⟨_, _, by simp only [sortedU, dicOf, g]; simp only [sortedD, intsF, lstOf, g, hb], q⟩
theorem is_integer_ok {d : D} {st : Sto} {Q : D → Sto → Prop} (h : puD d = true) (q : Q (.bl (isI d)) st) : Wp (hm_is_integer [d]) st Q := by
  refine ws_run ?_
  show Ws hb_is_integer [some d] st _ _ _ _
  unfold hb_is_integer
  walk_at "wp"
  refine wp_isInt h ?_
  walk_at "wp"
  cases d with
  | int i => exact if_tt (wp_not (wp_un (wp_var rfl (wp_isBool rfl ⟨_, rfl, q⟩))))
  | bl b => exact if_tt (wp_not (wp_un (wp_var rfl (wp_isBool rfl ⟨_, rfl, q⟩))))
  | _ => exact if_ff q
theorem is_form_ok {d : D} {n : Int} {st : Sto} {Q : D → Sto → Prop} (h : puD d = true) (hn : n ≤ 1000000) (q : ∀ st', Kp [] st st' → Q (.bl (isF n d)) st') : Wp (hm_is_form [d, .int n]) st Q := by
  refine ws_run ?_
  show Ws hb_is_form [some d, some (.int n), none] st _ _ _ _
  unfold hb_is_form
  walk_at "wp"
  refine wp_isT h ?_
  walk_at "wp"
  cases d with
  | tup xs =>
    refine if_tt ?_
    walk_at "wp"
    refine wp_len (xs := xs) rfl ?_
    walk_at "wp"
    refine if_bl (fun e => ?_) fun e => ?_
    · walk_at "wp"
      refine wl_map (fun x => .bl (isI x)) ?_
      walk_at "wp"
      refine ⟨xs, rfl, show xs.length ≤ 1000000 by omega, fun _ _ => rfl, fun d hd st2 k => ⟨_, rfl, ?_⟩, fun st' k g => ?_⟩
      · walk_at "wp"
        refine ⟨rfl, is_integer_ok (puDs_iff.mp (by simpa [puD] using h) d hd) ⟨rfl, Kp.refl _ _⟩⟩
      · walk_at "wp"
        refine wp_allF isI (ys := xs) (by simp only [lstOf, g]) ?_
        have : isF n (.tup xs) = xs.all isI := by
          simp only [isF, e, decide_true, Bool.true_and]
        rw [← this]
        exact q _ k
    · have : isF n (.tup xs) = false := by simp only [isF, e, decide_false, Bool.false_and]
      rw [← this]
      exact q _ (Kp.refl _ _)
  | _ => exact if_ff (q _ (Kp.refl _ _))
/-- the result None: a row without pivot -/
theorem inV_non {rs : List (List Int)} : inV (tv .non) ((rs.map pvD).map tv) = decide (∃ r ∈ rs, ¬ pv r < r.length) := by
  unfold inV
  rw [List.any_map, List.any_map]
  by_cases h : ∃ r ∈ rs, ¬ pv r < r.length
  · rw [decide_eq_true h]
    obtain ⟨r, hr, hp⟩ := h
    refine List.any_eq_true.mpr ⟨r, hr, ?_⟩
    simp only [Function.comp, pvD, hp, if_false]
    rfl
  · rw [decide_eq_false h]
    refine List.any_eq_false.mpr fun r hr => ?_
    have hp : pv r < r.length := Decidable.byContradiction fun z => h ⟨r, hr, z⟩
    simp only [Function.comp, pvD, hp, if_true]
    simp [tv, eqV]
theorem is_basis_ok {d : D} {n : Nat} {st : Sto} {Q : D → Sto → Prop} (h : puD d = true) (hn : n ≤ 1000) (hz : ∀ ds, d = .tup ds → ds.length ≤ 4000) (q : ∀ st', Kp [] st st' → Q (.bl (bas n d)) st') : Wp (hm_is_basis [d, .int n]) st Q := by
  refine ws_run ?_
  show Ws hb_is_basis [some d, some (.int n), none, none, none, none, none] st _ _ _ _
  unfold hb_is_basis
  walk_at "wp"
  refine wp_isT h ?_
  walk_at "wp"
  cases d with
  | tup ds =>
    have hds := hz ds rfl
    refine if_ff ?_
    walk_at "wp"
    refine wl_map (fun x => .bl (isF n x)) ?_
    walk_at "wp"
    refine ⟨ds, rfl, show ds.length ≤ 1000000 by omega, fun _ _ => rfl, fun d hd st2 k => ⟨_, rfl, ?_⟩, fun st1 k1 g => ?_⟩
    · walk_at "wp"
      exact ⟨rfl, is_form_ok (puDs_iff.mp (by simpa [puD] using h) d hd) (by omega) fun st' k => ⟨rfl, k⟩⟩
    walk_at "wp"
    refine wp_allF (isF n) (ys := ds) (by simp only [lstOf, g]) ?_
    walk_at "wp"
    cases ha : ds.all (isF n) with
    | false =>
      refine if_tt ?_
      walk_at "wp"
      have : bas n (.tup ds) = false := bas_false fun rs e b => by
        have : ds.all (isF n) = true := by
          simp only [matD, D.tup.injEq] at e
          rw [List.all_eq_true]
          intro x hx
          rw [e] at hx
          obtain ⟨r, hr, rfl⟩ := List.mem_map.mp hx
          exact row_isF (by rw [b.len r hr])
        rw [ha] at this
        cases this
      rw [← this]
      exact q _ k1
    | true =>
      refine if_ff ?_
      obtain ⟨rs, rfl, hl⟩ := rows_of (n := n) (ds := ds) fun x hx => by
        rw [List.all_eq_true] at ha
        exact ha x hx
      have hl : ∀ r ∈ rs, r.length = n := fun r hr => by have := hl r hr; omega
      rw [List.length_map] at hds
      show Ws sNil _ _ _ _ _ _
      walk_at "wp"
      refine wl_map pvF ?_
      walk_at "wp"
      refine ⟨rs.map rowD, rfl, by simpa using Nat.le_trans hds (by decide), fun _ _ => rfl, fun d hd st2 k => ⟨_, rfl, ?_⟩, fun st2 k2 g2 => ?_⟩
      · obtain ⟨r, hr, rfl⟩ := List.mem_map.mp hd
        walk_at "wp"
        exact ⟨rfl, pivot_ok ⟨(pvF_row r).symm, Kp.refl _ _⟩⟩
      replace g2 : st2[st1.length]? = some (.lst (rs.map pvD)) := by
        rw [g2, List.map_map]
        have : pvF ∘ rowD = pvD := funext pvF_row
        rw [this]
      have k2 := k1.trans k2
      generalize st1.length = p at g2 ⊢
      walk_at "wp"
      refine wp_inF (xs := rs.map pvD) (by simp only [seqOf, lstOf, g2]) (pvD_flat rs) ?_
      rw [inV_non]
      walk_at "wp"
      refine if_bl (fun hp => ?_) fun hp => ?_
      · walk_at "wp"
        have : bas n (matD rs) = false := bas_mat fun b => by
          obtain ⟨r, hr, hp⟩ := hp
          rw [hl r hr] at hp
          exact hp (b.piv r hr)
        refine (congrArg (fun b => Q (.bl b) _) this).mp (q _ k2)
      have hp : ∀ r ∈ rs, pv r < n := fun r hr => Decidable.byContradiction fun z => hp ⟨r, hr, by rw [hl r hr]; exact z⟩
      have g3 : st2[p]? = some (.lst ((rs.map fun r => (pv r : Int)).map .int)) := by
        rw [g2, List.map_map]
        refine congrArg (fun z => some (O.lst z)) (List.map_congr_left fun r hr => ?_)
        simp only [pvD, hl r hr, hp r hr, if_true, Function.comp]
      clear g2
      walk_at "wp"
      refine wp_sortedL (bs := rs.map fun r => (Mir.pv r : Int)) g3 (asInts_ints _) ?_
      refine wp_neInts (xs := rs.map fun r => (Mir.pv r : Int)) (by simp only [lstOf, g3]) rfl ?_
      walk_at "wp"
      by_cases hs : (rs.map fun r => (pv r : Int)) = sortI (rs.map fun r => (pv r : Int))
      rotate_left
      · rw [decide_eq_false hs]
        refine if_tt ?_
        walk_at "wp"
        have : bas n (matD rs) = false := bas_mat fun b => hs (sortI_self (by
          rw [List.pairwise_map]
          have := b.asc
          rw [List.pairwise_map] at this
          exact this.imp fun h => by omega)).symm
        refine (congrArg (fun b => Q (.bl b) _) this).mp (q _ k2)
      rw [decide_eq_true hs]
      refine if_ff ?_
      walk_at "wp"
      refine wp_lenSet (bs := rs.map fun r => (Mir.pv r : Int)) (by simp only [lstOf, g3]) (asInts_ints _) (by simpa using hds) ?_
      walk_at "wp"
      refine wp_len (xs := (rs.map fun r => (Mir.pv r : Int)).map .int) (by simp only [seqOf, lstOf, g3]) ?_
      walk_at "wp"
      refine if_bl (fun hd => ?_) fun hd => ?_
      · walk_at "wp"
        have : bas n (matD rs) = false := bas_mat fun b => hd (by
          have : (rs.map fun r => (pv r : Int)).Nodup := by
            have := b.asc
            rw [List.pairwise_map] at this
            exact (List.pairwise_map.mpr (this.imp fun h => by omega))
          rw [difI_nodup this, List.length_map, List.length_map, List.length_map])
        refine (congrArg (fun b => Q (.bl b) _) this).mp (q _ k2)
      have hd := Decidable.not_not.mp hd
      have nd : (rs.map fun r => (pv r : Int)).Nodup := difI_len.mp (by
        rw [List.length_map] at hd
        omega)
      have asc : (rs.map pv).Pairwise (· < ·) := by
        have h1 := sortI_eq.mp hs.symm
        rw [List.pairwise_map] at h1 ⊢
        have h2 := List.pairwise_map.mp nd
        exact (h1.and h2).imp fun h => by omega
      walk_at "wp"
      refine ws_for (enumL ((rs.map fun r => (pv r : Int)).map .int), fun st' => seqOf st' (.obj p) = some ((rs.map fun r => (pv r : Int)).map .int))
        (fun i env s => ∃ u v w x, env = [some (matD rs), some (.int n), some (.obj p), u, v, w, x] ∧ Kp [] st2 s ∧ ∀ j < i, 0 ≤ ent rs j (pv (rs.getD j [])) ∧ ∀ k < j, 0 ≤ ent rs k (pv (rs.getD j [])) ∧ ent rs k (pv (rs.getD j [])) < ent rs j (pv (rs.getD j []))) ?_ ?_ ?_ ?_
      · walk_at "wp"
        exact ⟨_, by simp only [seqOf, lstOf, g3], rfl, _, _, _, _, rfl, Kp.refl _ _, fun j h => absurd h (Nat.not_lt_zero _)⟩
      · rintro i env s ⟨u, v, w, x, rfl, k3, _⟩
        simp only [seqOf, lstOf, k3.at' _ _ (by simp) g3]
      · rintro i d env s hd' ⟨u, v, w, x, rfl, k3, hJ⟩
        obtain ⟨y, hy, rfl⟩ := enumL_get hd'
        rw [List.map_map, List.getElem?_map] at hy
        cases e : rs[i]? with
        | none => rw [e] at hy; cases hy
        | some r =>
          rw [e] at hy
          cases hy
          have hi := (List.getElem?_eq_some_iff.mp e).1
          have hr : rs.getD i [] = r := by rw [List.getD_eq_getElem?_getD, e]; rfl
          have hm : r ∈ rs := List.mem_of_getElem? e
          have hpr := hp r hm
          have hlr := hl r hm
          refine ⟨_, rfl, ?_⟩
          walk_at "wp"
          refine wp_ixM hi ?_
          rw [hr]
          walk_at "wp"
          refine wp_ixR (by omega) ?_
          have he : ent rs i (pv (rs.getD i [])) = r.getD (pv r) 0 := by rw [hr]; unfold ent; rw [hr]
          walk_at "wp"
          refine if_bl (fun hneg => ?_) fun hneg => ?_
          · walk_at "wp"
            have : bas n (matD rs) = false := bas_mat fun b => by
              have := b.pos i hi
              rw [he] at this
              omega
            refine (congrArg (fun b => Q (.bl b) _) this).mp (q _ (k2.trans k3))
          walk_at "wp"
          refine wl_map (fun d => .bl (redF (pv r) (r.getD (pv r) 0) d)) ?_
          walk_at "wp"
          refine ⟨_, rfl, wp_slicePre ?_⟩
          rw [← List.map_take]
          refine ⟨_, rfl, ?_, fun _ _ => rfl, fun d hd st4 k4 => ⟨_, rfl, ?_⟩, fun st5 k5 g5 => ?_⟩
          · show ((rs.take i).map rowD).length ≤ 1000000
            rw [List.length_map, List.length_take]
            omega
          · obtain ⟨o, ho, rfl⟩ := List.mem_map.mp hd
            have hlo := hl o (List.mem_of_mem_take ho)
            walk_at "wp"
            refine wp_ixR (by omega) ?_
            walk_at "wp"
            rw [redF_row]
            by_cases h0 : 0 ≤ o.getD (pv r) 0
            · rw [decide_eq_true h0]
              refine if_tt ?_
              walk_at "wp"
              simp only [h0, true_and]
              exact Kp.refl _ _
            · rw [decide_eq_false h0]
              refine if_ff ?_
              simp only [h0, false_and, decide_false, true_and]
              exact Kp.refl _ _
          walk_at "wp"
          refine wp_allF (redF (pv r) (r.getD (pv r) 0)) (ys := (rs.take i).map rowD) (by simp only [lstOf, g5]) ?_
          walk_at "wp"
          have hent : ∀ k, k < i → ∃ o, o ∈ rs.take i ∧ ent rs k (pv (rs.getD i [])) = o.getD (pv r) 0 := fun k hk => by
            have hk' : k < rs.length := by omega
            refine ⟨rs[k], ?_, ?_⟩
            · rw [List.mem_take_iff_getElem]
              exact ⟨k, by omega, rfl⟩
            · unfold ent
              rw [hr, List.getD_eq_getElem?_getD (l := rs), List.getElem?_eq_getElem hk']
              rfl
          cases ha2 : ((rs.take i).map rowD).all (redF (pv r) (r.getD (pv r) 0)) with
          | false =>
            refine if_tt ?_
            walk_at "wp"
            have : bas n (matD rs) = false := bas_mat fun b => by
              have : ((rs.take i).map rowD).all (redF (pv r) (r.getD (pv r) 0)) = true := by
                rw [List.all_eq_true]
                intro x hx
                obtain ⟨o, ho, rfl⟩ := List.mem_map.mp hx
                rw [redF_row]
                obtain ⟨k, hk, rfl⟩ := List.mem_take_iff_getElem.mp ho
                have := b.red i hi k (by omega)
                rw [he] at this
                have e2 : ent rs k (pv (rs.getD i [])) = (rs[k]'(by omega)).getD (pv r) 0 := by
                  unfold ent
                  rw [hr, List.getD_eq_getElem?_getD (l := rs), List.getElem?_eq_getElem (by omega)]
                  rfl
                rw [e2] at this
                exact decide_eq_true this
              rw [ha2] at this
              cases this
            refine (congrArg (fun b => Q (.bl b) _) this).mp (q _ ((k2.trans k3).trans k5))
          | true =>
            refine if_ff ?_
            show Ws sNil _ _ _ _ _ _
            walk_at "wp"
            refine ⟨_, _, _, _, rfl, k3.trans k5, fun j hj => ?_⟩
            by_cases hji : j = i
            · subst hji
              refine ⟨by rw [he]; omega, fun k hk => ?_⟩
              obtain ⟨o, ho, e2⟩ := hent k hk
              rw [e2, he]
              rw [List.all_eq_true] at ha2
              have := ha2 _ (List.mem_map.mpr ⟨o, ho, rfl⟩)
              rw [redF_row] at this
              exact of_decide_eq_true this
            · exact hJ j (by omega)
      · rintro env s ⟨u, v, w, x, rfl, k3, hJ⟩
        replace hJ : ∀ j < rs.length, _ := fun j hj => hJ j (by rw [enumL_len, List.length_map, List.length_map]; exact hj)
        walk_at "wp"
        have : bas n (matD rs) = true := bas_true ⟨hl, hp, asc, fun i hi => (hJ i hi).1, fun i hi j hj => (hJ i hi).2 j hj⟩
        refine (congrArg (fun b => Q (.bl b) _) this).mp (q _ (k2.trans k3))
  | _ =>
    refine if_tt ?_
    walk_at "wp"
    exact (congrArg (fun b => Q (.bl b) st) (bas_notT rfl)).mp (q _ (Kp.refl _ _))

theorem common_ok {x y : Int} {st : Sto} {Q : D → Sto → Prop} (fin : ∀ g : Int, 0 ≤ g → (∀ c : Int, c ∣ g ↔ (c ∣ x ∧ c ∣ y)) → Q (.int g) st) : Wp (hm__law_common [.int x, .int y]) st Q := by
  refine ws_run ?_
  show Ws hb__law_common [some (.int x), some (.int y)] st _ _ _ _
  unfold hb__law_common
  refine ws_seq (ws_par ?_)
  walk_at "wp"
  refine ⟨_, _, rfl, ?_⟩
  walk_at "wp"
  refine ⟨_, _, rfl, ?_⟩
  have ab : ∀ z : Int, 0 ≤ (if z < 0 then -z else z) ∧ ∀ c : Int, c ∣ (if z < 0 then -z else z) ↔ c ∣ z := fun z => by
    split
    · exact ⟨by omega, fun c => Int.dvd_neg⟩
    · exact ⟨by omega, fun c => Iff.rfl⟩
  refine ws_seq (ws_while (fun env s => ∃ u v : Int, env = [some (.int u), some (.int v)] ∧ s = st ∧ 0 ≤ u ∧ 0 ≤ v ∧ ∀ c : Int, (c ∣ u ∧ c ∣ v) ↔ (c ∣ x ∧ c ∣ y)) (fun env _ => match env with | [_, some (.int v)] => v.natAbs | _ => 0) ⟨_, _, rfl, rfl, (ab x).1, (ab y).1, fun c => and_congr ((ab x).2 c) ((ab y).2 c)⟩ ?_)
  rintro env s ⟨u, v, rfl, rfl, hu, hv, hc⟩
  walk_at "wp"
  refine if_bl (fun h => ?_) fun h => ?_
  · refine ws_par ?_
    walk_at "wp"
    refine wp_modI (by omega) ?_
    have f := fmod_rng (i := u) h
    have e := Int.mul_fdiv_add_fmod u v
    refine ⟨⟨v, u.fmod v, rfl, rfl, hv, f.1, fun c => (Iff.trans ?_ (hc c))⟩, ?_⟩
    · constructor
      · rintro ⟨h1, h2⟩
        exact ⟨by rw [← e]; exact Int.dvd_add (Int.dvd_mul_of_dvd_left h1) h2, h1⟩
      · rintro ⟨h1, h2⟩
        refine ⟨h2, ?_⟩
        have : u.fmod v = u - v * u.fdiv v := by omega
        rw [this]
        exact Int.dvd_sub h1 (Int.dvd_mul_of_dvd_left h2)
    · show (u.fmod v).natAbs < v.natAbs
      omega
  · walk_at "wp"
    have v0 : v = 0 := by omega
    subst v0
    exact fin u hu fun c => ⟨fun h => (hc c).mp ⟨h, Int.dvd_zero c⟩, fun h => ((hc c).mpr h).1⟩

end Lat

/-! joins and meets of lattices by rows -/
namespace Lat
open Mir
theorem isB_of {n : Nat} {rs : List (List Int)} (len : ∀ r ∈ rs, r.length = n) (piv : ∀ r ∈ rs, pv r < n) (asc : (rs.map pv).Pairwise (· < ·)) (pos : ∀ r ∈ rs, 0 ≤ vf r (pv r))
    (red : ∀ r ∈ rs, ∀ s ∈ rs, pv r < pv s → 0 ≤ vf r (pv s) ∧ vf r (pv s) < vf s (pv s)) : IsB n rs := by
  refine ⟨len, piv, asc, fun i hi => pos _ (getD_mem hi), fun i hi j hj => red _ (getD_mem (by omega)) _ (getD_mem hi) ?_⟩
  have h := (List.pairwise_iff_getElem.mp asc) j i (by rw [List.length_map]; omega) (by rw [List.length_map]; exact hi) hj
  rw [List.getElem_map, List.getElem_map] at h
  rw [List.getD_eq_getElem?_getD, List.getD_eq_getElem?_getD, List.getElem?_eq_getElem hi, List.getElem?_eq_getElem (show j < rs.length by omega)]
  exact h
theorem vf_drop (r : List Int) (k c : Nat) : vf (r.drop k) c = vf r (c + k) := by
  unfold vf
  rw [List.getD_eq_getElem?_getD, List.getD_eq_getElem?_getD, List.getElem?_drop, Nat.add_comm]
theorem pv_drop {r : List Int} {n k : Nat} (hl : r.length = n) (h1 : k ≤ pv r) (h2 : pv r < n) : pv (r.drop k) = pv r - k := by
  refine pv_eq (by rw [List.length_drop]; omega) ?_ fun j hj => ?_
  · have := vf_drop r k (pv r - k)
    unfold vf at this
    rw [this, show pv r - k + k = pv r by omega]
    exact pv_ne (by omega)
  · have := vf_drop r k j
    unfold vf at this
    rw [this]
    exact pv_zero (by omega)
def tls (n : Nat) (ws : List (List Int)) : List (List Int) := (ws.filter fun r => decide (n ≤ pv r)).map fun r => r.drop n
section
variable {n m : Nat} {ws : List (List Int)}
theorem tls_mem {r : List Int} (h : r ∈ tls n ws) : ∃ w ∈ ws, n ≤ pv w ∧ r = w.drop n := by
  obtain ⟨w, hw, rfl⟩ := List.mem_map.mp h
  have := List.mem_filter.mp hw
  exact ⟨w, this.1, of_decide_eq_true this.2, rfl⟩
theorem tls_isB (B : IsB (n + m) ws) : IsB m (tls n ws) := by
  have pd : ∀ w ∈ ws, n ≤ pv w → pv (w.drop n) = pv w - n := fun w hw h => pv_drop (B.len w hw) h (B.piv w hw)
  refine isB_of (fun r hr => ?_) (fun r hr => ?_) ?_ (fun r hr => ?_) fun r hr s hs h => ?_
  · obtain ⟨w, hw, _, rfl⟩ := tls_mem hr
    rw [List.length_drop, B.len w hw]; omega
  · obtain ⟨w, hw, h, rfl⟩ := tls_mem hr
    rw [pd w hw h]
    have := B.piv w hw
    omega
  · unfold tls
    rw [List.map_map, List.pairwise_map]
    have a := List.pairwise_map.mp B.asc
    refine (a.filter _).imp_of_mem fun {x y} hx hy h => ?_
    have mx := List.mem_filter.mp hx
    have my := List.mem_filter.mp hy
    have kx : n ≤ pv x := of_decide_eq_true mx.2
    have ky : n ≤ pv y := of_decide_eq_true my.2
    show pv (x.drop n) < pv (y.drop n)
    rw [pd x mx.1 kx, pd y my.1 ky]
    omega
  · obtain ⟨w, hw, h, rfl⟩ := tls_mem hr
    rw [pd w hw h, vf_drop, show pv w - n + n = pv w by omega]
    exact Int.le_of_lt (IsB.pp B hw)
  · obtain ⟨w, hw, h1, rfl⟩ := tls_mem hr
    obtain ⟨u, hu, h2, rfl⟩ := tls_mem hs
    rw [pd w hw h1, pd u hu h2] at h
    rw [pd u hu h2, vf_drop, vf_drop, show pv u - n + n = pv u by omega]
    exact IsB.rd B hw hu (by omega)
theorem tls_span (B : IsB (n + m) ws) (x : Vf) : Spn (Rows (tls n ws)) x ↔ Spn (Rows ws) (up n x) := by
  have L : Lin (up n) := ⟨fun c => by unfold up; split <;> rfl, fun k g v c => by unfold up; split <;> simp⟩
  have M : Lin (dn n) := ⟨fun c => rfl, fun k g v c => rfl⟩
  constructor
  · intro h
    rw [rows_list] at h
    have := L.spn.mpr ⟨x, h, fun _ => rfl⟩
    refine this.bind fun y hy => ?_
    obtain ⟨u, hu, rfl⟩ := List.mem_map.mp hy
    obtain ⟨r, hr, rfl⟩ := List.mem_map.mp hu
    obtain ⟨w, hw, h, rfl⟩ := tls_mem hr
    refine (Spn.of (S := Rows ws) ⟨w, hw, rfl⟩).cast fun c => ?_
    unfold up
    split
    · exact IsB.pz c (by omega)
    · rw [vf_drop, show c - n + n = c by omega]
  · intro h
    obtain ⟨z, hz, e⟩ := th_rep h
    have z0 : ∀ i, i < ws.length → pv (ws.getD i []) < n → z i = 0 := fun i => by
      induction i using Nat.strongRecOn with
      | _ i ih =>
        intro hi hp
        have a := e (pv (ws.getD i []))
        have u0 : up n x (pv (ws.getD i [])) = 0 := by unfold up; rw [if_pos hp]
        rw [u0] at a
        unfold th at a
        rw [sm_one hi fun j hj hne => by
          by_cases l : j < i
          · rw [ih j l hj (Nat.lt_trans (IsB.lt B l hi) hp), Int.zero_mul]
          · rw [IsB.pz _ (IsB.lt B (show i < j by omega) hj), Int.mul_zero]] at a
        have pp := IsB.pp B (getD_mem (d := []) hi)
        rcases Int.mul_eq_zero.mp a.symm with h | h
        · exact h
        · omega
    have key : Spn (Rows (tls n ws)) fun j => sm ws.length fun i => z i * (if n ≤ pv (ws.getD i []) then vf ((ws.getD i []).drop n) else fun _ => 0) j := Spn.sm' fun i hi => by
      split
      · exact .of ⟨_, List.mem_map.mpr ⟨_, List.mem_filter.mpr ⟨getD_mem hi, decide_eq_true (by assumption)⟩, rfl⟩, rfl⟩
      · exact .zero
    refine key.cast fun c => ?_
    have a := e (c + n)
    have u0 : up n x (c + n) = x c := by unfold up; rw [if_neg (by omega)]; exact congrArg x (by omega)
    rw [u0] at a
    rw [a]
    unfold th
    refine sm_congr fun i hi => ?_
    by_cases h : n ≤ pv (ws.getD i [])
    · rw [if_pos h, vf_drop]
    · rw [if_neg h, z0 i hi (by omega)]
      simp
end
section
variable {n : Nat} {as bs : List (List Int)}
theorem join_span {x : Vf} : Spn (Rows (as ++ bs)) x ↔ ∃ u v, Spn (Rows as) u ∧ Spn (Rows bs) v ∧ ∀ c, x c = u c + v c := by
  rw [rows_list, rows_list, rows_list, List.map_append]
  exact spn_app
def dbl (n : Nat) (as bs : List (List Int)) : List (List Int) := as.map (fun r => r ++ r) ++ bs.map fun r => r ++ List.replicate n 0
theorem vf_app (r s : List Int) (c : Nat) : vf (r ++ s) c = if c < r.length then vf r c else vf s (c - r.length) := by
  unfold vf
  rw [List.getD_eq_getElem?_getD, List.getD_eq_getElem?_getD, List.getD_eq_getElem?_getD]
  split
  · rw [List.getElem?_append_left (by assumption)]
  · rw [List.getElem?_append_right (by omega)]
theorem vf_rep0 (n c : Nat) : vf (List.replicate n 0) c = 0 := by
  unfold vf
  rw [List.getD_eq_getElem?_getD, List.getElem?_replicate]
  split <;> rfl
theorem dbl_span (ha : ∀ r ∈ as, r.length = n) (hb : ∀ r ∈ bs, r.length = n) (x : Vf) : Spn (Rows (dbl n as bs)) (up n x) ↔ Spn (Rows as) x ∧ Spn (Rows bs) x := by
  let φ : Vf → Vf := fun g c => if c < n then g c else g (c - n)
  let ψ : Vf → Vf := fun g c => if c < n then g c else 0
  have L : Lin φ := ⟨fun c => by show (if c < n then (0 : Int) else 0) = 0; simp, fun k g v c => by
    show (if c < n then k * g c + v c else k * g (c - n) + v (c - n)) = k * (if c < n then g c else g (c - n)) + (if c < n then v c else v (c - n))
    split <;> rfl⟩
  have M : Lin ψ := ⟨fun c => by show (if c < n then (0 : Int) else 0) = 0; simp, fun k g v c => by
    show (if c < n then k * g c + v c else 0) = k * (if c < n then g c else 0) + (if c < n then v c else 0)
    split <;> simp⟩
  have ea : (as.map (fun r => r ++ r)).map vf = (as.map vf).map φ := by
    rw [List.map_map, List.map_map]
    refine List.map_congr_left fun r hr => funext fun c => ?_
    show vf (r ++ r) c = if c < n then vf r c else vf r (c - n)
    rw [vf_app, ha r hr]
  have eb : (bs.map fun r => r ++ List.replicate n 0).map vf = (bs.map vf).map ψ := by
    rw [List.map_map, List.map_map]
    refine List.map_congr_left fun r hr => funext fun c => ?_
    show vf (r ++ List.replicate n 0) c = if c < n then vf r c else 0
    rw [vf_app, hb r hr, vf_rep0]
  unfold dbl
  rw [rows_list, rows_list, rows_list, List.map_append, spn_app, ea, eb]
  have ta : ∀ {u : Vf}, Spn (· ∈ as.map vf) u → ∀ c, n ≤ c → u c = 0 := fun h => spn_top (fun g hg c hc => by
    obtain ⟨r, hr, rfl⟩ := List.mem_map.mp hg
    exact vf_top (ha r hr) c hc) h
  have tb : ∀ {u : Vf}, Spn (· ∈ bs.map vf) u → ∀ c, n ≤ c → u c = 0 := fun h => spn_top (fun g hg c hc => by
    obtain ⟨r, hr, rfl⟩ := List.mem_map.mp hg
    exact vf_top (hb r hr) c hc) h
  constructor
  · rintro ⟨y, w, hy, hw, e⟩
    obtain ⟨u, hu, eu⟩ := L.spn.mp hy
    obtain ⟨v, hv, ev⟩ := M.spn.mp hw
    have e1 : ∀ c, up n x c = (if c < n then u c else u (c - n)) + (if c < n then v c else 0) := fun c => by rw [e, eu, ev]
    have ux : ∀ c, u c = x c := fun c => by
      have := e1 (c + n)
      unfold up at this
      rw [if_neg (by omega), if_neg (by omega), if_neg (by omega), show c + n - n = c by omega] at this
      omega
    refine ⟨hu.cast ux, (hv.mul (-1)).cast fun c => ?_⟩
    by_cases h : c < n
    · have := e1 c
      unfold up at this
      rw [if_pos h, if_pos h, if_pos h, ux c] at this
      omega
    · rw [tb hv c (by omega), ← ux c, ta hu c (by omega)]
      rfl
  · rintro ⟨hu, hv⟩
    refine ⟨φ x, ψ fun c => -1 * x c, L.spn.mpr ⟨x, hu, fun _ => rfl⟩, M.spn.mpr ⟨_, hv.mul (-1), fun _ => rfl⟩, fun c => ?_⟩
    show up n x c = (if c < n then x c else x (c - n)) + (if c < n then -1 * x c else 0)
    unfold up
    split <;> omega
end
/-- sizes of coordinates -/
theorem crd_bits {n t : Nat} {rs : List (List Int)} {v fs : List Int} (B : IsB n rs) (hn : n ≤ 15) (e : ∀ j, vf v j = sm rs.length fun i => fs.getD i 0 * vf (rs.getD i []) j) (hl : fs.length = rs.length) (vb : ∀ j, (vf v j).natAbs < 2 ^ t) : ∀ j, (vf fs j).natAbs < 2 ^ (t + 75) := by
  have hrs := B.count
  have key : ∀ i, i < rs.length → (fs.getD i 0).natAbs < 2 ^ (t + 5 * i) := fun i => by
    induction i using Nat.strongRecOn with
    | _ i ih =>
      intro hi
      have mi : rs.getD i [] ∈ rs := getD_mem hi
      have pp := IsB.pp B mi
      have a := e (pv (rs.getD i []))
      have b := vb (pv (rs.getD i []))
      generalize hp : pv (rs.getD i []) = p at *
      let g : Nat → Int := fun j => if j < i then fs.getD j 0 * vf (rs.getD j []) p else 0
      have split : sm rs.length (fun j => fs.getD j 0 * vf (rs.getD j []) p) = sm rs.length g + fs.getD i 0 * vf (rs.getD i []) p := by
        have : sm rs.length (fun j => if j = i then fs.getD i 0 * vf (rs.getD i []) p else 0) = fs.getD i 0 * vf (rs.getD i []) p := by
          rw [sm_one hi fun j _ hne => if_neg hne, if_pos rfl]
        rw [← this, ← sm_add]
        refine sm_congr fun j hj => ?_
        show _ = (if j < i then fs.getD j 0 * vf (rs.getD j []) p else 0) + (if j = i then _ else 0)
        by_cases l : j < i
        · rw [if_pos l, if_neg (by omega)]; omega
        · by_cases q : j = i
          · subst q
            rw [if_neg l, if_pos rfl]; omega
          · rw [if_neg l, if_neg q, IsB.pz p (by rw [← hp]; exact IsB.lt B (show i < j by omega) hj), Int.mul_zero]
            rfl
      rw [split] at a
      let P := (vf (rs.getD i []) p).natAbs
      have P1 : 1 ≤ P := by show 1 ≤ (vf (rs.getD i []) p).natAbs; omega
      have prod : (fs.getD i 0).natAbs * P = (fs.getD i 0 * vf (rs.getD i []) p).natAbs := (Int.natAbs_mul _ _).symm
      by_cases i0 : i = 0
      · have g0 : sm rs.length g = 0 := sm_zero fun j _ => if_neg (by omega)
        have : (fs.getD i 0).natAbs * 1 ≤ (fs.getD i 0).natAbs * P := Nat.mul_le_mul_left _ P1
        rw [g0, Int.zero_add] at a
        rw [← a] at prod
        rw [show t + 5 * i = t by omega]
        omega
      · have gb : (sm rs.length g).natAbs ≤ rs.length * (2 ^ (t + 5 * (i - 1)) * P) := sm_abs' fun j hj => by
          show (if j < i then fs.getD j 0 * vf (rs.getD j []) p else 0).natAbs ≤ _
          split
          · rename_i l
            rw [Int.natAbs_mul]
            have h1 := ih j l hj
            have h2 : (2 : Nat) ^ (t + 5 * j) ≤ 2 ^ (t + 5 * (i - 1)) := Nat.pow_le_pow_right (by decide) (by omega)
            have rd := IsB.rd B (getD_mem (d := []) hj) mi (IsB.lt B l hi)
            rw [hp] at rd
            refine Nat.mul_le_mul (by omega) ?_
            show _ ≤ (vf (rs.getD i []) p).natAbs
            omega
          · exact Nat.zero_le _
        have c15 := Nat.mul_le_mul_right (2 ^ (t + 5 * (i - 1)) * P) (show rs.length ≤ 15 by omega)
        have up1 : (2 : Nat) ^ t ≤ 2 ^ (t + 5 * (i - 1)) := Nat.pow_le_pow_right (by decide) (by omega)
        have up2 : (2 : Nat) ^ (t + 5 * i) = 32 * 2 ^ (t + 5 * (i - 1)) := by rw [show t + 5 * i = 5 + (t + 5 * (i - 1)) by omega, Nat.pow_add]
        have f1 : (fs.getD i 0).natAbs * P < 2 ^ t + 15 * (2 ^ (t + 5 * (i - 1)) * P) := by omega
        generalize 2 ^ (t + 5 * (i - 1)) = T at *
        have f2 : 1 * T ≤ P * T := Nat.mul_le_mul_right _ P1
        have f3 : (fs.getD i 0).natAbs * P < (16 * T) * P := by
          rw [show 16 * T * P = 16 * (P * T) by rw [Nat.mul_assoc, Nat.mul_comm T P]]
          rw [Nat.mul_comm T P] at f1
          omega
        have := Nat.lt_of_mul_lt_mul_right f3
        omega
  intro j
  by_cases hj : j < rs.length
  · exact Nat.lt_of_lt_of_le (key j hj) (Nat.pow_le_pow_right (by decide) (by omega))
  · show (fs.getD j 0).natAbs < _
    rw [getD_ge (by omega)]
    exact Nat.two_pow_pos _
end Lat

namespace Lat
open PySem PySem.Spec PyProof.Rows L2 Mir
local macro_rules | `(tactic| walk_at "wp") => `(tactic| repeat (first
  | with_reducible refine ws_seq ?_
  | with_reducible refine ws_set ?_
  | with_reducible refine ws_ret ?_
  | with_reducible refine ws_if ?_
  | with_reducible refine ws_setI ?_
  | with_reducible refine ws_expr ?_
  | with_reducible refine ws_nil ?_
  | with_reducible refine wp_var (by with_unfolding_all rfl) ?_
  | with_reducible refine wp_c ?_
  | with_reducible refine wp_op ?_
  | with_reducible refine wp_un ?_
  | with_reducible refine wp_and ?_
  | with_reducible refine wp_or ?_
  | with_reducible refine wp_not ?_
  | with_reducible refine wp_tst ?_
  | with_reducible refine wp_tand ?_
  | with_reducible refine wp_tor ?_
  | with_reducible refine wp_tnot ?_
  | with_reducible refine wp_chain ?_
  | with_reducible refine wp_ife ?_
  | with_reducible refine wa_nil ?_
  | with_reducible refine wa_cons ?_
  | with_reducible refine wp_lst ?_
  | with_reducible refine wp_tup ?_
  | with_reducible refine wp_new ?_
  | with_reducible refine wp_fn ?_
  | with_reducible refine wp_fn1 ?_
  | with_reducible refine wp_fn2 ?_
  | with_reducible refine wp_call ?_
  | with_reducible refine wp_lm ?_
  | with_reducible refine wp_slice ?_
  | with_reducible refine wo_none ?_
  | with_reducible refine wo_some ?_
  | with_reducible refine wi_seq ?_
  | with_reducible refine wi_enum ?_
  | with_reducible refine wi_rng1 ?_
  | with_reducible refine wi_rng2 ?_
  | with_reducible refine wi_zip ?_
  | with_reducible refine wp_addI ?_
  | with_reducible refine wp_subI ?_
  | with_reducible refine wp_negI ?_
  | with_reducible refine wp_gtI ?_
  | with_reducible refine wp_ltI ?_
  | with_reducible refine wp_geI ?_
  | with_reducible refine wp_leI ?_
  | with_reducible refine wp_eqF ?_
  | with_reducible refine wp_neF ?_
  | with_reducible refine ex_bl ?_
  | (with_reducible refine if_tt ?_)
  | (with_reducible refine if_ff ?_)
  | (with_reducible refine And.intro (show List.length (List.cons _ _) ≤ 1000000 by simp only [List.length_cons, List.length_nil]; decide) ?_)
  | (with_reducible refine And.intro (show List.length List.nil ≤ 1000000 by decide) ?_)
  | (with_reducible refine And.intro (show List.length (List.cons _ _) = _ from rfl) ?_)))
theorem hermite_nil {ds sz : D} {st : Sto} {Q : D → Sto → Prop} (hd : seqOf st ds = some []) (fin : ∀ st', Kp [] st st' → Q (matD []) st') : Wp (hm_hermite [ds, sz]) st Q := by
  refine ws_run ?_
  show Ws hb_hermite [some ds, some sz, none, none, none] st _ _ _ _
  unfold hb_hermite
  refine ws_seq (ws_set ⟨.obj st.length, st ++ [.dic []], rfl, ?_⟩)
  have k0 : Kp [] st (st ++ [.dic []]) := Kp.app _ _ _
  have g0 : (st ++ [O.dic []])[st.length]? = some (.dic []) := app_get
  generalize st ++ [O.dic []] = s0 at k0 g0 ⊢
  generalize st.length = a at g0 ⊢
  refine ws_seq (ws_for ([], fun st' => seqOf st' ds = some []) (fun i env s => ∃ (w3 w4 : Option D), env = [some ds, some sz, some (.obj a), w3, w4] ∧ s = s0) ?_ ?_ ?_ ?_)
  · walk_at "wp"
    exact ⟨[], seqOf_kp k0 hd, rfl, _, _, rfl, rfl⟩
  · rintro i env s ⟨w3, w4, rfl, rfl⟩
    exact seqOf_kp k0 hd
  · rintro i d' env s hx
    simp at hx
  · rintro env s ⟨w3, w4, rfl, rfl⟩
    walk_at "wp"
    refine wl_map (fun d => d) ?_
    walk_at "wp"
    refine ⟨.lst [], _, (by simp only [sortedU, dicOf, g0]; rfl), [], rfl, by decide, fun _ _ => rfl, fun d hd => by simp at hd, fun st' k g => ?_⟩
    walk_at "wp"
    refine wp_tuple (xs := []) (by simp only [seqOf, lstOf, g]; rfl) (fin _ (k0.trans k))
theorem join_ok {n b : Nat} {as bs : List (List Int)} {sz : D} {st : Sto} {Q : D → Sto → Prop} (n1 : 1 ≤ n) (hn : n ≤ 15) (Va : Vs n b as) (Vb : Vs n b bs) (la : as.length ≤ 1000) (lb : bs.length ≤ 1000) (lim : (n + 4) * (Rb n b + 2) < 134217000)
    (fin : ∀ rs st', IsB n rs → (∀ x, Spn (Rows rs) x ↔ ∃ u v, Spn (Rows as) u ∧ Spn (Rows bs) v ∧ ∀ c, x c = u c + v c) → Kp [] st st' → Q (matD rs) st') : Wp (hm_join_of [matD as, matD bs, sz]) st Q := by
  refine ws_run ?_
  show Ws hb_join_of [some (matD as), some (matD bs), some sz] st _ _ _ _
  unfold hb_join_of
  walk_at "wp"
  refine wp_tuple (xs := as.map rowD) rfl ?_
  walk_at "wp"
  refine wp_tuple (xs := bs.map rowD) rfl ?_
  refine wp_addT (by rw [List.length_map, List.length_map]; omega) ?_
  walk_at "wp"
  rw [← List.map_append]
  refine hermite_ok (RowsAt.mat st (as ++ bs)) n1 hn (fun g hg => ?_) (fun g hg => ?_) lim fun rs s1 B t1 t2 K1 => ?_
  · rcases List.mem_append.mp hg with h | h
    · exact Va.len g h
    · exact Vb.len g h
  · rcases List.mem_append.mp hg with h | h
    · exact Va.bd g h
    · exact Vb.bd g h
  · exact fin rs s1 B (fun x => (spn_iff t2 t1 x).trans join_span) K1
theorem meet_ok {n b : Nat} {as bs : List (List Int)} {st : Sto} {Q : D → Sto → Prop} (n1 : 1 ≤ n) (hn : n ≤ 7) (Va : Vs n b as) (Vb : Vs n b bs) (la : as.length ≤ 1000) (lb : bs.length ≤ 1000) (lim : (n + n + 4) * (Rb (n + n) b + 2) < 134217000)
    (fin : ∀ rs st', IsB n rs → (∀ x, Spn (Rows rs) x ↔ Spn (Rows as) x ∧ Spn (Rows bs) x) → Kp [] st st' → Q (matD rs) st') : Wp (hm_meet_of [matD as, matD bs, .int n]) st Q := by
  refine ws_run ?_
  show Ws hb_meet_of [some (matD as), some (matD bs), some (.int n), none, none, none] st _ _ _ _
  unfold hb_meet_of
  walk_at "wp"
  refine wp_repZ (by omega) ?_
  walk_at "wp"
  refine wl_fmap (fun d => match d with | .tup xs => .tup (xs ++ xs) | _ => .non) ?_
  walk_at "wp"
  refine ⟨as.map rowD, rfl, (by show (as.map rowD).length ≤ _; rw [List.length_map]; omega), fun _ _ => rfl, fun d hd st2 k => ?_, fun s1 K1 => ?_⟩
  · obtain ⟨r, hr, rfl⟩ := List.mem_map.mp hd
    refine ⟨_, rfl, ?_⟩
    walk_at "wp"
    refine wp_tuple (xs := r.map .int) rfl ?_
    walk_at "wp"
    refine wp_tuple (xs := r.map .int) rfl ?_
    refine wp_addT (by rw [List.length_map, Va.len r hr]; omega) ?_
    exact ⟨rfl, Kp.refl _ _⟩
  walk_at "wp"
  refine wl_fmap (fun d => match d with | .tup xs => .tup (xs ++ (List.replicate n (0 : Int)).map .int) | _ => .non) ?_
  walk_at "wp"
  refine ⟨bs.map rowD, rfl, (by show (bs.map rowD).length ≤ _; rw [List.length_map]; omega), fun _ _ => rfl, fun d hd st2 k => ?_, fun s2 K2 => ?_⟩
  · obtain ⟨r, hr, rfl⟩ := List.mem_map.mp hd
    refine ⟨_, rfl, ?_⟩
    walk_at "wp"
    refine wp_tuple (xs := r.map .int) rfl ?_
    walk_at "wp"
    refine wp_addT (by rw [List.length_map, List.length_map, Vb.len r hr, List.length_replicate]; omega) ?_
    exact ⟨rfl, Kp.refl _ _⟩
  refine wp_addL rfl rfl (by simp only [List.length_map]; omega) ?_
  walk_at "wp"
  have e : (List.map (fun d => match d with | .tup xs => D.tup (xs ++ xs) | _ => .non) (as.map rowD) ++ List.map (fun d => match d with | .tup xs => D.tup (xs ++ (List.replicate n (0 : Int)).map .int) | _ => .non) (bs.map rowD)) = (dbl n as bs).map rowD := by
    unfold dbl
    rw [List.map_append, List.map_map, List.map_map, List.map_map, List.map_map]
    congr 1
    · refine List.map_congr_left fun r _ => ?_
      simp [rowD]
    · refine List.map_congr_left fun r _ => ?_
      simp [rowD]
  rw [e]
  have dl : ∀ g ∈ dbl n as bs, g.length = n + n := fun g hg => by
    rcases List.mem_append.mp hg with h | h
    · obtain ⟨r, hr, rfl⟩ := List.mem_map.mp h
      rw [List.length_append, Va.len r hr]
    · obtain ⟨r, hr, rfl⟩ := List.mem_map.mp h
      rw [List.length_append, Vb.len r hr, List.length_replicate]
  have db : ∀ g ∈ dbl n as bs, ∀ j, (vf g j).natAbs < 2 ^ b := fun g hg j => by
    rcases List.mem_append.mp hg with h | h
    · obtain ⟨r, hr, rfl⟩ := List.mem_map.mp h
      rw [vf_app]
      split <;> exact Va.bd r hr _
    · obtain ⟨r, hr, rfl⟩ := List.mem_map.mp h
      rw [vf_app, vf_rep0]
      split
      · exact Vb.bd r hr _
      · exact Nat.two_pow_pos _
  refine ws_run ?_
  show Ws hb_tails_of [some (.lst ((dbl n as bs).map rowD)), some (.int n), some (.int n), none, none] s2 _ _ _ _
  unfold hb_tails_of
  walk_at "wp"
  refine hermite_ok (RowsAt.val s2 (dbl n as bs)) (n := n + n) (by omega) (by omega) dl db lim fun ws s3 B t1 t2 K3 => ?_
  walk_at "wp"
  refine wl_ffilter (fun d => match d with | .tup ds => (match asInts ds with | some v => decide (n ≤ pv v) | none => false) | _ => false) (fun d => match d with | .tup xs => .tup (xs.drop n) | _ => .non) ?_
  walk_at "wp"
  refine ⟨ws.map rowD, rfl, (by show (ws.map rowD).length ≤ _; rw [List.length_map]; have := B.count; omega), fun _ _ => rfl, fun d hd st2 k => ?_, fun s4 K4 => ?_⟩
  · obtain ⟨r, hr, rfl⟩ := List.mem_map.mp hd
    refine ⟨_, rfl, ?_⟩
    walk_at "wp"
    refine pivot_ok ?_
    have : pvD r = .int (pv r : Nat) := by
      unfold pvD
      rw [if_pos (by rw [B.len r hr]; exact B.piv r hr)]
    rw [this]
    walk_at "wp"
    refine ⟨?_, Kp.refl _ _, fun _ => ?_⟩
    · simp only [rowD, asInts_ints]
      exact decide_eq_decide.mpr (by omega)
    · walk_at "wp"
      refine ⟨_, rfl, ?_⟩
      walk_at "wp"
      exact wp_slicePost ⟨rfl, Kp.refl _ _⟩
  walk_at "wp"
  have e2 : List.map (fun d => match d with | .tup xs => D.tup (xs.drop n) | _ => .non) (List.filter (fun d => match d with | .tup ds => (match asInts ds with | some v => decide (n ≤ pv v) | none => false) | _ => false) (ws.map rowD)) = (tls n ws).map rowD := by
    unfold tls
    rw [List.filter_map, List.map_map, List.map_map]
    have : ((fun d => match d with | D.tup ds => (match asInts ds with | some v => decide (n ≤ pv v) | none => false) | _ => false) ∘ rowD) = fun r => decide (n ≤ pv r) := funext fun r => by
      simp only [Function.comp, rowD, asInts_ints]
    rw [this]
    refine List.map_congr_left fun r _ => ?_
    simp only [Function.comp, rowD, List.map_drop]
  refine wp_tuple (xs := (tls n ws).map rowD) (by simp only [seqOf, lstOf]; exact congrArg some e2) ?_
  refine fin (tls n ws) s4 (tls_isB B) (fun x => ?_) (((K1.trans K2).trans K3).trans K4)
  rw [tls_span B, spn_iff t2 t1, dbl_span Va.len Vb.len]
end Lat

namespace Lat
open PySem PySem.Spec PyProof.Rows L2 Mir
local macro_rules | `(tactic| walk_at "wp") => `(tactic| repeat (first
  | with_reducible refine ws_seq ?_
  | with_reducible refine ws_set ?_
  | with_reducible refine ws_ret ?_
  | with_reducible refine ws_if ?_
  | with_reducible refine ws_setI ?_
  | with_reducible refine ws_expr ?_
  | with_reducible refine ws_nil ?_
  | with_reducible refine wp_var (by with_unfolding_all rfl) ?_
  | with_reducible refine wp_c ?_
  | with_reducible refine wp_op ?_
  | with_reducible refine wp_un ?_
  | with_reducible refine wp_and ?_
  | with_reducible refine wp_or ?_
  | with_reducible refine wp_not ?_
  | with_reducible refine wp_tst ?_
  | with_reducible refine wp_tand ?_
  | with_reducible refine wp_tor ?_
  | with_reducible refine wp_tnot ?_
  | with_reducible refine wp_chain ?_
  | with_reducible refine wp_ife ?_
  | with_reducible refine wa_nil ?_
  | with_reducible refine wa_cons ?_
  | with_reducible refine wp_lst ?_
  | with_reducible refine wp_tup ?_
  | with_reducible refine wp_new ?_
  | with_reducible refine wp_fn ?_
  | with_reducible refine wp_fn1 ?_
  | with_reducible refine wp_fn2 ?_
  | with_reducible refine wp_call ?_
  | with_reducible refine wp_lm ?_
  | with_reducible refine wp_slice ?_
  | with_reducible refine wo_none ?_
  | with_reducible refine wo_some ?_
  | with_reducible refine wi_seq ?_
  | with_reducible refine wi_enum ?_
  | with_reducible refine wi_rng1 ?_
  | with_reducible refine wi_rng2 ?_
  | with_reducible refine wi_zip ?_
  | with_reducible refine wp_addI ?_
  | with_reducible refine wp_subI ?_
  | with_reducible refine wp_negI ?_
  | with_reducible refine wp_gtI ?_
  | with_reducible refine wp_ltI ?_
  | with_reducible refine wp_geI ?_
  | with_reducible refine wp_leI ?_
  | with_reducible refine wp_eqF ?_
  | with_reducible refine wp_neF ?_
  | with_reducible refine ex_bl ?_
  | (with_reducible refine if_tt ?_)
  | (with_reducible refine if_ff ?_)
  | (with_reducible refine And.intro (show List.length (List.cons _ _) ≤ 1000000 by simp only [List.length_cons, List.length_nil]; decide) ?_)
  | (with_reducible refine And.intro (show List.length List.nil ≤ 1000000 by decide) ?_)
  | (with_reducible refine And.intro (show List.length (List.cons _ _) = _ from rfl) ?_)))
theorem ws_aug {i : Nat} {f : D → D → M D} {a : Mir.Env → M D} {env : Mir.Env} {st : Sto} {x : D} {N : Mir.Env → Sto → Prop} {R : D → Sto → Prop} {B C : Mir.Env → Sto → Prop} (h : env[i]? = some (some x)) (q : Wp (a env) st fun y st1 => Wp (f x y) st1 fun z st2 => N (env.set i (some z)) st2) : Ws (sAug i f a) env st N R B C := by
  have e : sAug i f a env = (a env >>= fun e => f x e >>= fun z => pure (.nx, env.set i (some z))) := by
    unfold sAug
    rw [h]
  unfold Ws
  rw [e]
  exact Wp.bind (q.mono fun y st1 q => Wp.bind (q.mono fun z st2 q => Wp.pure q))
/-- the coordinates of a vector of the lattice -/
noncomputable def cof (rs : List (List Int)) (v : List Int) : List Int := @dite _ (∃ fs : List Int, fs.length = rs.length ∧ ∀ j, vf v j = sm rs.length fun i => fs.getD i 0 * vf (rs.getD i []) j) (Classical.propDecidable _) (fun h => Classical.choose h) fun _ => []
theorem cof_ok {rs : List (List Int)} {v : List Int} (h : Spn (Rows rs) (vf v)) : (cof rs v).length = rs.length ∧ ∀ j, vf v j = sm rs.length fun i => (cof rs v).getD i 0 * vf (rs.getD i []) j := by
  have ex : ∃ fs : List Int, fs.length = rs.length ∧ ∀ j, vf v j = sm rs.length fun i => fs.getD i 0 * vf (rs.getD i []) j := by
    obtain ⟨z, _, e⟩ := th_rep h
    refine ⟨(List.range rs.length).map z, by simp, fun j => (e j).trans ?_⟩
    unfold th
    refine sm_congr fun i hi => ?_
    have : ((List.range rs.length).map z).getD i 0 = z i := by
      rw [List.getD_eq_getElem?_getD, List.getElem?_map, List.getElem?_range hi]
      rfl
    rw [this]
  have : cof rs v = Classical.choose ex := dif_pos ex
  rw [this]
  exact Classical.choose_spec ex
theorem class_ok {n b t : Nat} {rs ss : List (List Int)} {st : Sto} {Q : D → Sto → Prop} (hn : n ≤ 15) (B : IsB n rs) (B' : IsB n ss) (V : Vs n b rs) (V' : Vs n t ss) (hs : ∀ x, Rows ss x → Spn (Rows rs) x)
    (lim : ∀ k, k ≤ n → (k + 4) * (Rb k (t + 75) + 2) < 134217000) (lim2 : t + n * (b + 1) + b + 2 < 134217000) (lim3 : 16 * ((t + 80) * 15 + 4) < 134217000)
    (fin : ∀ (N : Nat) st', Cc (Spn (Rows rs)) (Spn (Rows ss)) N → Kp [] st st' → Q (.int N) st') : Wp (hm_class_count [matD rs, matD ss]) st Q := by
  have rl := B.count
  have sl := B'.count
  refine ws_run ?_
  show Ws hb_class_count [some (matD rs), some (matD ss), none, none, none] st _ _ _ _
  unfold hb_class_count
  walk_at "wp"
  refine includes_ok (n := n) (b := b) (t := t) hn B V.bd V'.len V'.bd (by omega) lim2 fun s1 K1 => ?_
  rw [List.all_eq_true.mpr fun v hv => inS_true (hs _ ⟨v, hv, rfl⟩)]
  walk_at "wp"
  refine if_not rfl ?_
  walk_at "wp"
  refine wp_len (xs := rs.map rowD) rfl ?_
  walk_at "wp"
  refine wp_len (xs := ss.map rowD) rfl ?_
  rw [List.length_map, List.length_map]
  walk_at "wp"
  by_cases hl : rs.length = ss.length
  rotate_left
  · refine if_yes (decide_eq_true (by omega)) ?_
    walk_at "wp"
    exact fin 0 s1 (cc_inf B B' hs hl) K1
  refine if_not (decide_eq_false (by omega)) ?_
  walk_at "wp"
  have cok : ∀ s ∈ ss, (cof rs s).length = rs.length ∧ ∀ j, vf s j = sm rs.length fun i => (cof rs s).getD i 0 * vf (rs.getD i []) j := fun s h => cof_ok (hs _ ⟨s, h, rfl⟩)
  have cl : ∀ c ∈ ss.map (cof rs), c.length = rs.length := fun c hc => by
    obtain ⟨s, h, rfl⟩ := List.mem_map.mp hc
    exact (cok s h).1
  have cb : ∀ c ∈ ss.map (cof rs), ∀ j, (vf c j).natAbs < 2 ^ (t + 75) := fun c hc => by
    obtain ⟨s, h, rfl⟩ := List.mem_map.mp hc
    exact crd_bits B hn (cok s h).2 (cok s h).1 (V'.bd s h)
  have h : Wp (itEnum (eCall 2 hm_hermite [] (aCons (eFrz (eLC (itSeq (eVar 1)) (.name 4) (fun _ => pure true) (eCall 2 hm_coordinates [] (aCons (eVar 0) (aCons (eVar 4) aNil))) [4])) (aCons (eFn (fn1 lenD) (aCons (eVar 0) aNil)) aNil))) [some (matD rs), some (matD ss), some (.int 1), none, none]) s1
      fun src s2 => ∃ C, src.1 = enumL (C.map rowD) ∧ (∀ s, src.2 s) ∧ IsB rs.length C ∧ Sm (ss.map (cof rs)) C ∧ (∀ r ∈ C, ∀ j, (vf r j).natAbs < 2 ^ ((t + 80) * 15 + 4)) ∧ Kp [] s1 s2 := by
    walk_at "wp"
    refine wl_fmap (fun d => match d with | .tup xs => (match asInts xs with | some v => rowD (cof rs v) | none => .non) | _ => .non) ?_
    walk_at "wp"
    refine ⟨ss.map rowD, rfl, (by show (ss.map rowD).length ≤ _; rw [List.length_map]; omega), fun _ _ => rfl, fun d hd st2 k => ?_, fun s2 K2 => ?_⟩
    · obtain ⟨s, hs', rfl⟩ := List.mem_map.mp hd
      refine ⟨_, rfl, ?_⟩
      walk_at "wp"
      refine coordinates_ok (n := n) (b := b) (t := t) hn B V.bd (V'.len s hs') (V'.bd s hs') lim2 fun d s3 hd K3 => ?_
      have : d = .tup ((cof rs s).map .int) := Crd.uniq B hd (.inl ⟨_, rfl, (cok s hs').1, (cok s hs').2, hs _ ⟨s, hs', rfl⟩⟩)
      subst this
      refine ⟨?_, K3⟩
      simp only [rowD, asInts_ints]
    walk_at "wp"
    refine wp_len (xs := rs.map rowD) rfl ?_
    rw [List.length_map]
    walk_at "wp"
    have e : List.map (fun d => match d with | .tup xs => (match asInts xs with | some v => rowD (cof rs v) | none => .non) | _ => .non) (ss.map rowD) = (ss.map (cof rs)).map rowD := by
      rw [List.map_map, List.map_map]
      refine List.map_congr_left fun s _ => ?_
      simp only [Function.comp, rowD, asInts_ints]
    rw [e]
    by_cases h0 : rs.length = 0
    · have : ss = [] := List.length_eq_zero_iff.mp (by omega)
      subst this
      refine hermite_nil rfl fun s3 K3 => ?_
      exact ⟨[], rfl, [], rfl, fun _ => rfl, by rw [h0]; exact .nil 0, Sm.refl _, by simp, K2.trans K3⟩
    · refine hermite_ok (RowsAt.val s2 (ss.map (cof rs))) (n := rs.length) (by omega) (by omega) cl cb (lim _ rl) fun C s3 BC t1 t2 K3 => ?_
      refine ⟨C.map rowD, rfl, C, rfl, fun _ => rfl, BC, ⟨t1, t2⟩, fun r hr j => ?_, K2.trans K3⟩
      refine Nat.lt_of_lt_of_le (basis_small (by omega) BC cl cb t1 t2 hr j) (Nat.pow_le_pow_right (by decide) ?_)
      have : (t + 75 + 5) * rs.length ≤ (t + 80) * 15 := Nat.mul_le_mul (by omega) (by omega)
      omega
  obtain ⟨src, s2, e1, C, es, ek, BC, tC, bC, K2⟩ := h
  have he : ∀ i < ss.length, ∀ j, vf (ss.getD i []) j = th rs (vf ((ss.map (cof rs)).getD i [])) j := fun i hi j => by
    have g : (ss.map (cof rs)).getD i [] = cof rs (ss.getD i []) := by
      rw [List.getD_eq_getElem?_getD, List.getElem?_map, List.getD_eq_getElem?_getD, List.getElem?_eq_getElem hi]
      rfl
    rw [g]
    exact (cok _ (getD_mem hi)).2 j
  obtain ⟨Cl, Cp⟩ := co_full B B' hs hl (by rw [List.length_map]) cl he BC tC
  obtain ⟨N, eN, cc⟩ := cc_fin B B' hs hl (by rw [List.length_map]) cl he BC tC
  refine ws_for src (fun i env s => ∃ (w3 w4 : Option D) (x : Int), env = [some (matD rs), some (matD ss), some (.int x), w3, w4] ∧ s = s2 ∧ i ≤ rs.length ∧ x * pN C i (rs.length - i) = N ∧ x.natAbs < 2 ^ (((t + 80) * 15 + 4) * i + 1)) ⟨src, s2, e1, rfl, _, _, 1, rfl, rfl, Nat.zero_le _, by rw [Int.one_mul]; exact eN, by simp⟩ (fun _ _ _ _ => ek _) ?_ ?_
  · rintro i d env s hd ⟨w3, w4, x, rfl, rfl, hi, hx, xb⟩
    rw [es] at hd
    obtain ⟨y, hy, rfl⟩ := enumL_get hd
    rw [List.getElem?_map] at hy
    cases ec : C[i]? with
    | none => rw [ec] at hy; cases hy
    | some r =>
    rw [ec] at hy
    cases hy
    have hiC := (List.getElem?_eq_some_iff.mp ec).1
    have er : C.getD i [] = r := by rw [List.getD_eq_getElem?_getD, ec]; rfl
    have mr : r ∈ C := List.mem_of_getElem? ec
    refine ⟨_, rfl, ?_⟩
    refine ws_aug rfl ?_
    walk_at "wp"
    refine wp_ixR (by rw [BC.len r mr]; omega) ?_
    have rb : (r.getD i 0).natAbs < 2 ^ ((t + 80) * 15 + 4) := bC r mr i
    have e15 : ((t + 80) * 15 + 4) * i ≤ ((t + 80) * 15 + 4) * 15 := Nat.mul_le_mul_left _ (by omega)
    refine wp_mulI ?_ ?_
    · have h1 := log2_le (i := x) (k := ((t + 80) * 15 + 4) * i + 1) (Nat.lt_trans xb (Nat.pow_lt_pow_right (by decide) (Nat.lt_succ_self _)))
      have h2 := log2_le (i := r.getD i 0) (k := (t + 80) * 15 + 4) (Nat.lt_trans rb (Nat.pow_lt_pow_right (by decide) (Nat.lt_succ_self _)))
      omega
    · refine ⟨_, _, x * r.getD i 0, rfl, rfl, by omega, ?_, ?_⟩
      · rw [← hx, show rs.length - i = rs.length - (i + 1) + 1 by omega, pN]
        unfold ent
        rw [er, Int.mul_assoc]
      · rw [Int.natAbs_mul, Nat.mul_add, Nat.mul_one, show ((t + 80) * 15 + 4) * i + ((t + 80) * 15 + 4) + 1 = (((t + 80) * 15 + 4) * i + 1) + ((t + 80) * 15 + 4) by omega, Nat.pow_add]
        exact Nat.mul_lt_mul'' xb rb
  · rintro env s ⟨w3, w4, x, rfl, rfl, _, hx, _⟩
    rw [es, enumL_len, List.length_map, Cl, Nat.sub_self] at hx
    have : x = N := by rw [← hx]; simp [pN]
    subst this
    walk_at "wp"
    exact fin N _ cc (K1.trans K2)
end Lat

namespace Lat
open PySem PySem.Spec PyProof.Rows L2 Mir
noncomputable def hb6__law_basis : SM := (sSeq (sSet (.name 2) (eLst (aCons (eC (.int 1)) (aCons (eC (.int 1)) (aCons (eC (.int 2)) (aCons (eC (.int 3)) (aCons (eC (.int 4)) (aCons (eC (.int 6)) (aCons (eC (.int 12)) (aCons (eC (.int 35)) (aCons (eC (.int 1009)) (aCons (eOp powD (eC (.int 10)) (eC (.int 6))) aNil)))))))))))) (sSeq (sSet (.name 3) (eLC (itR1 (eVar 1)) (.name 5) (tst (eOp gtD (eCall 2 hm__law_draw [] (aCons (eVar 0) (aCons (eC (.int 4)) aNil))) (eC (.int 0)))) (eVar 5) [5])) (sSeq (sSet (.name 4) (eNew aNil)) (sSeq (sFor (itSeq (eVar 3)) (.name 5) (sSeq (sSet (.name 7) (eOp addN (eOp repD (eLst (aCons (eC (.int 0)) aNil)) (eVar 5)) (eLst (aCons (eOp ixD (eVar 2) (eCall 2 hm__law_draw [] (aCons (eVar 0) (aCons (eC (.int 10)) aNil)))) aNil)))) (sSeq (sWhile (tst (eOp ltD (eFn (fn1 lenD) (aCons (eVar 7) aNil)) (eVar 1))) (sExpr (eLM (fun d ds => fn1 (appD d) ds) (eVar 7) (aCons (eOp ixD (eLst (aCons (eC (.int 0)) (aCons (eOp subD (eCall 2 hm__law_draw [] (aCons (eVar 0) (aCons (eC (.int 7)) aNil))) (eC (.int 3))) (aCons (eCall 2 hm__law_draw [] (aCons (eVar 0) (aCons (eOp powD (eC (.int 10)) (eC (.int 6))) aNil))) aNil)))) (eCall 2 hm__law_draw [] (aCons (eVar 0) (aCons (eC (.int 3)) aNil)))) aNil)))) (sExpr (eLM (fun d ds => fn1 (appD d) ds) (eVar 4) (aCons (eFn (fn1 tupleD) (aCons (eVar 7) aNil)) aNil)))))) (sSeq (sFor (itEnum (eVar 3)) (.tup [(.name 6), (.name 5)]) (sFor (itR1 (eVar 6)) (.name 8) (sSeq (sSet (.name 9) (eOp fdivL (eOp ixD (eOp ixD (eVar 4) (eVar 8)) (eVar 5)) (eOp ixD (eOp ixD (eVar 4) (eVar 6)) (eVar 5)))) (sSetI (eCall 3 hm__law_plus [] (aCons (eOp subD (eC (.int 0)) (eVar 9)) (aCons (eOp ixD (eVar 4) (eVar 6)) (aCons (eOp ixD (eVar 4) (eVar 8)) aNil)))) (eVar 4) (eVar 8))))) (sRet (eFn (fn1 tupleD) (aCons (eVar 4) aNil))))))))
noncomputable def hm6__law_basis : List D → M D := runB 10 hb6__law_basis
local macro_rules | `(tactic| walk_at "wp") => `(tactic| repeat (first
  | with_reducible refine ws_seq ?_
  | with_reducible refine ws_set ?_
  | with_reducible refine ws_ret ?_
  | with_reducible refine ws_if ?_
  | with_reducible refine ws_setI ?_
  | with_reducible refine ws_expr ?_
  | with_reducible refine ws_nil ?_
  | with_reducible refine wp_var (by with_unfolding_all rfl) ?_
  | with_reducible refine wp_c ?_
  | with_reducible refine wp_op ?_
  | with_reducible refine wp_un ?_
  | with_reducible refine wp_and ?_
  | with_reducible refine wp_or ?_
  | with_reducible refine wp_not ?_
  | with_reducible refine wp_tst ?_
  | with_reducible refine wp_tand ?_
  | with_reducible refine wp_tor ?_
  | with_reducible refine wp_tnot ?_
  | with_reducible refine wp_chain ?_
  | with_reducible refine wp_ife ?_
  | with_reducible refine wa_nil ?_
  | with_reducible refine wa_cons ?_
  | with_reducible refine wp_lst ?_
  | with_reducible refine wp_tup ?_
  | with_reducible refine wp_new ?_
  | with_reducible refine wp_fn ?_
  | with_reducible refine wp_fn1 ?_
  | with_reducible refine wp_call ?_
  | with_reducible refine wp_lm ?_
  | with_reducible refine wp_slice ?_
  | with_reducible refine wo_none ?_
  | with_reducible refine wo_some ?_
  | with_reducible refine wi_seq ?_
  | with_reducible refine wi_enum ?_
  | with_reducible refine wi_rng1 ?_
  | with_reducible refine wi_rng2 ?_
  | with_reducible refine wi_zip ?_
  | with_reducible refine wp_addI ?_
  | with_reducible refine wp_subI ?_
  | with_reducible refine wp_negI ?_
  | with_reducible refine wp_gtI ?_
  | with_reducible refine wp_ltI ?_
  | with_reducible refine wp_geI ?_
  | with_reducible refine wp_leI ?_
  | with_reducible refine wp_eqF ?_
  | with_reducible refine wp_neF ?_
  | with_reducible refine ex_bl ?_
  | (with_reducible refine if_tt ?_)
  | (with_reducible refine if_ff ?_)))






theorem basis6_ok {a b k n : Nat} {st : Sto} {Q : D → Sto → Prop} (h : Strm a b k st) (hk : k < 2 ^ 30) (hn : n ≤ 12)
    (fin : ∀ rs k' st', IsB n rs → (∀ r ∈ rs, ∀ j, (vf r j).natAbs < 2 ^ max 20 (21 * n)) → Strm a b k' st' → k' ≤ k + 1000 → Kp [a, b] st st' → Q (matD rs) st') : Wp (hm6__law_basis [.obj a, .int n]) st Q := by
  refine ws_run ?_
  show Ws hb6__law_basis [some (.obj a), some (.int n), none, none, none, none, none, none, none, none] st _ _ _ _
  unfold hb6__law_basis
  walk_at "wp"
  refine wp_powI (by decide) ?_
  walk_at "wp"
  refine ⟨by decide, ?_⟩
  have hmenu : ∀ i : Int, 0 ≤ i → i < 10 → ∃ m : Int, atI [D.int 1, .int 1, .int 2, .int 3, .int 4, .int 6, .int 12, .int 35, .int 1009, .int (10 ^ Int.toNat 6)] i = some (.int m) ∧ 0 < m ∧ m.natAbs < 2 ^ 20 := fun i h0 h1 => by
    have : i = 0 ∨ i = 1 ∨ i = 2 ∨ i = 3 ∨ i = 4 ∨ i = 5 ∨ i = 6 ∨ i = 7 ∨ i = 8 ∨ i = 9 := by omega
    rcases this with rfl | rfl | rfl | rfl | rfl | rfl | rfl | rfl | rfl | rfl <;> exact ⟨_, rfl, by decide, by decide⟩
  generalize [D.int 1, .int 1, .int 2, .int 3, .int 4, .int 6, .int 12, .int 35, .int 1009, .int (10 ^ Int.toNat 6)] = menu at hmenu ⊢
  walk_at "wp"
  refine (wp_lc (mi := itR1 (eVar 1)) (src := (rngL 0 n, fun _ => True)) (st1 := st) ?_ (fun i acc s => ∃ cols : List Nat, acc = cols.map (fun c : Nat => D.int c) ∧ cols.Pairwise (· < ·) ∧ (∀ c ∈ cols, c < i) ∧ Strm a b (k + i) s ∧ Kp [a, b] st s ∧ s[st.length]? = some (.lst acc) ∧ cols.length ≤ i) ?_ ?_ ?_).mono ?_
  · obtain ⟨s1, st1, e1, e2, e3⟩ : Wp (itR1 (eVar 1) ([some (.obj a), some (.int n), none, none, none, none, none, none, none, none].set 2 (some (.lst menu)))) st fun s st' => s = (rngL 0 n, fun _ => True) ∧ st' = st := by
      walk_at "wp"
      exact ⟨n, rfl, by omega, by omega, rfl, rfl⟩
    rw [e2, e3] at e1
    exact e1
  · exact ⟨[], rfl, by simp, by simp, h.app _, Kp.app _ _ _, app_get, Nat.le_refl _⟩
  · exact fun _ _ _ _ => trivial
  · rintro i d acc s hd ⟨cols, rfl, asc, hc, S, K, g, hcl⟩
    obtain ⟨rfl, hi⟩ := rngL_get hd
    refine ⟨_, rfl, ?_⟩
    walk_at "wp"
    refine ⟨rfl, draw S (by omega) (by decide) (by decide) fun v s1 hv1 hv2 S1 K1 => ?_⟩
    walk_at "wp"
    have g1 := K1.at' _ _ (h.nin (Nat.le_refl _)) g
    refine if_bl (fun hv => ?_) fun hv => ?_
    · walk_at "wp"
      refine ⟨g1, by rw [List.length_map]; omega, cols ++ [i], by simp, ?_, ?_, S1.set (h.nin (Nat.le_refl _)) _, (K.trans K1).set (.inl (Nat.le_refl _)) _, ?_, by simpa using hcl⟩
      · rw [List.pairwise_append]
        exact ⟨asc, by simp, fun x hx y hy => by
          have : y = i := by simpa using hy
          have := hc x hx
          omega⟩
      · intro c hcm
        rcases List.mem_append.mp hcm with hcm | hcm
        · have := hc c hcm
          omega
        · have : c = i := by simpa using hcm
          omega
      · rw [Int.zero_add]
        exact set_get g1
    · exact ⟨cols, rfl, asc, fun c hcm => Nat.lt_succ_of_lt (hc c hcm), S1, K.trans K1, g1, Nat.le_succ_of_le hcl⟩
  rintro d s ⟨rfl, acc, cols, rfl, asc, hc, S, K, g, hcl⟩
  rw [show (rngL 0 (n : Int), fun _ : Sto => True).1 = rngL 0 n from rfl, rngL_len, Int.sub_zero, Int.toNat_natCast] at *
  have hp : st.length ∉ [a, b] := h.nin (Nat.le_refl _)
  generalize st.length = p at *
  walk_at "wp"
  refine ⟨by decide, ?_⟩
  have hq : s.length ∉ [a, b] := S.nin (Nat.le_refl _)
  have hpq : p ≠ s.length := by have := (List.getElem?_eq_some_iff.mp g).1; omega
  have hap : p ∉ [a, b] := hp
  have S1 := S.app (.lst [])
  have K1 : Kp [a, b] st (s ++ [.lst []]) := K.trans (Kp.app _ _ _)
  have g1 : (s ++ [O.lst []])[p]? = some (.lst (cols.map fun c : Nat => D.int c)) := (Kp.app [] s (.lst [])).at' _ _ (by simp) g
  have gq : (s ++ [O.lst []])[s.length]? = some (.lst []) := app_get
  generalize s ++ [O.lst []] = s1 at S1 K1 g1 gq ⊢
  generalize hqe : s.length = q at *
  have hlq : st.length ≤ q := by rw [← hqe]; exact K.len
  walk_at "wp"
  refine ws_for (cols.map fun c : Nat => D.int c, fun st' => seqOf st' (.obj p) = some (cols.map fun c : Nat => D.int c))
    (fun i env s => ∃ (u5 u6 u7 u8 u9 : Option D) (rs : List (List Int)) (k' : Nat), env = [some (.obj a), some (.int n), some (.lst menu), some (.obj p), some (.obj q), u5, u6, u7, u8, u9] ∧ Strm a b k' s ∧ k' ≤ k + n + 50 * i ∧ Kp [a, b] st s ∧
      s[p]? = some (.lst (cols.map fun c : Nat => D.int c)) ∧ s[q]? = some (.lst (rs.map rowD)) ∧ rs.length = i ∧ (∀ h < i, (rs.getD h []).length = n) ∧ (∀ h < i, ∀ c < cols.getD h 0, ent rs h c = 0) ∧ (∀ h < i, 0 < ent rs h (cols.getD h 0)) ∧ (∀ h c, (ent rs h c).natAbs < 2 ^ 20) ∧ ∀ h c, c ≠ cols.getD h 0 → (ent rs h c).natAbs < 2 ^ 20) ?_ ?_ ?_ ?_
  · walk_at "wp"
    exact ⟨_, by simp only [seqOf, lstOf, g1], rfl, _, _, _, _, _, [], k + n, rfl, S1, by omega, K1, g1, gq, rfl, fun h hh => absurd hh (Nat.not_lt_zero _), fun h hh => absurd hh (Nat.not_lt_zero _), fun h hh => absurd hh (Nat.not_lt_zero _), fun h c => (by decide : (0 : Int).natAbs < 2 ^ 20), fun h c _ => (by decide : (0 : Int).natAbs < 2 ^ 20)⟩
  · rintro i env s ⟨u5, u6, u7, u8, u9, rs, k', rfl, _, _, _, g, _⟩
    simp only [seqOf, lstOf, g]
  · rintro i d env s hd ⟨u5, u6, u7, u8, u9, rs, k', rfl, S, hk', K, g, gq, hrl, hr1, hr2, hr3, hr4, hr5⟩
    rw [List.getElem?_map] at hd
    cases ec : cols[i]? with
    | none => rw [ec] at hd; cases hd
    | some c =>
    rw [ec] at hd
    cases hd
    have hi := (List.getElem?_eq_some_iff.mp ec).1
    have hci : cols.getD i 0 = c := by rw [List.getD_eq_getElem?_getD, ec]; rfl
    have hcn : c < n := hc c (List.mem_of_getElem? ec)
    refine ⟨_, rfl, ?_⟩
    walk_at "wp"
    refine ⟨by decide, ?_⟩
    walk_at "wp"
    refine wp_rep (by omega) (by simp; omega) (by omega) ?_
    walk_at "wp"
    refine ⟨rfl, draw S (by omega) (by decide) (by decide) fun v s1 hv1 hv2 S1 K1 => ?_⟩
    obtain ⟨m, em, hm1, hm2⟩ := hmenu v hv1 hv2
    refine wp_ixL rfl em ?_
    walk_at "wp"
    refine ⟨by simp, ?_⟩
    refine wp_addN (xs := List.replicate c (.int 0)) (ys := [.int m]) (by simp only [lstOf, rep1, Int.toNat_natCast]) rfl (by simp; omega) ?_
    have e0 : List.replicate c (D.int 0) ++ [D.int m] = (List.replicate c 0 ++ [m]).map D.int := by simp
    rw [e0]
    have ht : s1.length ∉ [a, b] := S1.nin (Nat.le_refl _)
    have g1 := K1.at' _ _ hap g
    have gq1 := K1.at' _ _ hq gq
    have hpt : p ≠ s1.length := by have := (List.getElem?_eq_some_iff.mp g1).1; omega
    have hqt : q ≠ s1.length := by have := (List.getElem?_eq_some_iff.mp gq1).1; omega
    have S2 := S1.app (.lst ((List.replicate c 0 ++ [m]).map D.int))
    have K2 : Kp [a, b] st (s1 ++ [.lst ((List.replicate c 0 ++ [m]).map D.int)]) := (K.trans K1).trans (Kp.app _ _ _)
    have gt : (s1 ++ [O.lst ((List.replicate c 0 ++ [m]).map D.int)])[s1.length]? = _ := app_get
    have g2 := (Kp.app [] s1 (.lst ((List.replicate c 0 ++ [m]).map D.int))).at' _ _ (by simp) g1
    have gq2 := (Kp.app [] s1 (.lst ((List.replicate c 0 ++ [m]).map D.int))).at' _ _ (by simp) gq1
    have hlt' : st.length ≤ s1.length := (K.trans K1).len
    generalize s1 ++ [O.lst ((List.replicate c 0 ++ [m]).map D.int)] = s2 at S2 K2 gt g2 gq2 ⊢
    generalize s1.length = t at *
    clear S1 K1 g1 gq1 e0
    walk_at "wp"
    refine ws_while (fun env s => ∃ (u8 u9 : Option D) (xs : List Int) (k2 : Nat), env = [some (.obj a), some (.int n), some (.lst menu), some (.obj p), some (.obj q), some (.int c), u6, some (.obj t), u8, u9] ∧ Strm a b k2 s ∧ k2 ≤ k' + 1 + 3 * xs.length ∧ Kp [a, b] st s ∧
        s[p]? = some (.lst (cols.map fun c : Nat => D.int c)) ∧ s[q]? = some (.lst (rs.map rowD)) ∧ s[t]? = some (.lst (xs.map D.int)) ∧ xs.length ≤ n ∧ c < xs.length ∧ (∀ j < c, xs.getD j 0 = 0) ∧ 0 < xs.getD c 0 ∧ (∀ j, (xs.getD j 0).natAbs < 2 ^ 20) ∧ ∀ j, j ≠ c → (xs.getD j 0).natAbs < 2 ^ 20)
      (fun env s => match s[t]? with | some (.lst l) => n - l.length | _ => 0) ?_ ?_
    · have hx : ∀ j, (List.replicate c (0 : Int) ++ [m]).getD j 0 = if j = c then m else 0 := fun j => by
        by_cases h1 : j < c
        · rw [if_neg (by omega), List.getD_eq_getElem?_getD, List.getElem?_append_left (by simpa using h1), List.getElem?_replicate, if_pos h1]
          rfl
        · by_cases h2 : j = c
          · subst h2
            rw [if_pos rfl]
            have := getD_app_e (xs := List.replicate j (0 : Int)) (y := m) (d := 0)
            rwa [List.length_replicate] at this
          · rw [if_neg h2, getD_ge (by simp; omega)]
      refine ⟨_, _, _, k' + 1, rfl, S2, by omega, K2, g2, gq2, gt, by simp; omega, by simp, fun j hj => ?_, ?_, fun j => ?_, fun j hj => by rw [hx, if_neg hj]; decide⟩
      · rw [hx, if_neg (by omega)]
      · rw [hx, if_pos rfl]; exact hm1
      · rw [hx]
        split
        · exact hm2
        · decide
    · rintro env s ⟨u8, u9, xs, k2, rfl, S, hk2, K, g, gq, gt, hx1, hx2, hx3, hx4, hx5, hx6⟩
      walk_at "wp"
      refine wp_len (xs := xs.map D.int) (by simp only [seqOf, lstOf, gt]) ?_
      walk_at "wp"
      rw [List.length_map]
      refine if_bl (fun hlt => ?_) fun hlt => ?_
      · walk_at "wp"
        refine ⟨by simp only [lstOf, gt]; rfl, ?_⟩
        walk_at "wp"
        refine ⟨rfl, draw S (by omega) (by decide) (by decide) fun v1 s1 hv1 hv2 S1 K1 => ?_⟩
        walk_at "wp"
        refine wp_powI (by decide) ?_
        walk_at "wp"
        refine ⟨rfl, draw S1 (by omega) (by decide) (by decide) fun v2 s2 hw1 hw2 S2 K2 => ?_⟩
        walk_at "wp"
        refine ⟨by simp, ?_⟩
        walk_at "wp"
        refine ⟨rfl, draw S2 (by omega) (by decide) (by decide) fun v3 s3 hz1 hz2 S3 K3 => ?_⟩
        have K4 := (K1.trans K2).trans K3
        have gt3 := K4.at' _ _ ht gt
        have hv : ∃ w : Int, atI [D.int 0, .int (v1 - 3), .int v2] v3 = some (.int w) ∧ w.natAbs < 2 ^ 20 := by
          have : v3 = 0 ∨ v3 = 1 ∨ v3 = 2 := by omega
          have h20 : (10 : Int) ^ Int.toNat 6 = 1000000 := by decide
          rcases this with rfl | rfl | rfl
          · exact ⟨_, rfl, by decide⟩
          · exact ⟨_, rfl, by omega⟩
          · exact ⟨_, rfl, by omega⟩
        obtain ⟨w, ew, hw⟩ := hv
        refine wp_ixL rfl ew ?_
        walk_at "wp"
        refine wp_app gt3 (by rw [List.length_map]; omega) ?_
        have ex : xs.map D.int ++ [D.int w] = (xs ++ [w]).map D.int := by simp
        rw [ex]
        refine ⟨⟨_, _, xs ++ [w], k2 + 1 + 1 + 1, rfl, S3.set ht _, by simp; omega, (K.trans K4).set (.inl hlt') _, set_get_ne (Ne.symm hpt) (K4.at' _ _ hap g), set_get_ne (Ne.symm hqt) (K4.at' _ _ hq gq), set_get gt3, by simp; omega, by simp; omega, fun j hj => ?_, ?_, fun j => ?_, fun j hj => ?_⟩, ?_⟩
        · rw [getD_app_l (by omega)]; exact hx3 j hj
        · rw [getD_app_l hx2]; exact hx4
        · by_cases h1 : j < xs.length
          · rw [getD_app_l h1]; exact hx5 j
          · by_cases h2 : j = xs.length
            · subst h2; rw [getD_app_e]; exact hw
            · rw [getD_ge (by simp; omega)]; decide
        · by_cases h1 : j < xs.length
          · rw [getD_app_l h1]; exact hx6 j hj
          · by_cases h2 : j = xs.length
            · subst h2; rw [getD_app_e]; exact hw
            · rw [getD_ge (by simp; omega)]; decide
        · simp only [set_get gt3, gt, List.length_map, List.length_append, List.length_singleton]
          omega
      · have hxn : xs.length = n := by omega
        walk_at "wp"
        refine ⟨by simp only [lstOf, gq]; rfl, ?_⟩
        walk_at "wp"
        refine wp_tuple (xs := xs.map D.int) (by simp only [seqOf, lstOf, gt]) ?_
        walk_at "wp"
        refine wp_app gq (by rw [List.length_map]; omega) ?_
        have ex : rs.map rowD ++ [D.tup (xs.map D.int)] = (rs ++ [xs]).map rowD := by simp [rowD]
        rw [ex]
        have hE : ∀ h c, ent (rs ++ [xs]) h c = if h = i then xs.getD c 0 else ent rs h c := fun h c => by
          unfold ent
          by_cases h1 : h < rs.length
          · rw [getD_app_l h1, if_neg (by omega)]
          · by_cases h2 : h = i
            · rw [if_pos h2, h2, ← hrl, getD_app_e]
            · rw [if_neg h2, getD_ge (xs := rs ++ [xs]) (by simp; omega), getD_ge (xs := rs) (by omega)]
        refine ⟨_, _, _, _, _, rs ++ [xs], k2, rfl, S.set hq _, by omega, K.set (.inl hlq) _, set_get_ne (Ne.symm hpq) g, set_get gq, by simp; omega, fun h hh => ?_, fun h hh c' hc' => ?_, fun h hh => ?_, fun h c' => ?_, fun h c' hc' => ?_⟩
        · by_cases h1 : h < i
          · rw [getD_app_l (by omega)]; exact hr1 h h1
          · have : h = rs.length := by omega
            subst this
            rw [getD_app_e]; exact hxn
        · rw [hE]
          split
          · rename_i e
            subst e
            rw [hci] at hc'
            exact hx3 c' hc'
          · exact hr2 h (by omega) c' hc'
        · rw [hE]
          split
          · rename_i e
            subst e
            rw [hci]
            exact hx4
          · exact hr3 h (by omega)
        · rw [hE]
          split
          · exact hx5 c'
          · exact hr4 h c'
        · rw [hE]
          split
          · rename_i e
            rw [e, hci] at hc'
            exact hx6 c' hc'
          · exact hr5 h c' hc'
  rintro env s2 ⟨u5, u6, u7, u8, u9, rs, k', rfl, S, hk', K, g, gq, hrl, hr1, hr2, hr3, hr4, hr5⟩
  rw [List.length_map] at *
  have R0 : Red n cols 20 0 0 rs := ⟨hrl, fun h hh => hr1 h (by omega), fun h hh => hr2 h (by omega), fun h hh => hr3 h (by omega), fun g hg => absurd hg (Nat.not_lt_zero _), fun h hh => absurd hh (Nat.not_lt_zero _), fun h _ => hr4 h, fun h hh => absurd hh (Nat.not_lt_zero _), fun h hh => absurd hh (Nat.not_lt_zero _)⟩
  have U0 : RedB cols 20 20 0 0 rs := ⟨fun h _ => hr4 h _, fun h _ => hr5 h, fun h hh => absurd hh (Nat.not_lt_zero _), fun h hh => absurd hh (Nat.not_lt_zero _)⟩
  clear hr1 hr2 hr3 hr4 hr5 hrl
  have hcl : cols.length ≤ 12 := by omega
  have hk2 : k' ≤ k + 1000 := by omega
  walk_at "wp"
  refine ws_for (enumL (cols.map fun c : Nat => D.int c), fun st' => seqOf st' (.obj p) = some (cols.map fun c : Nat => D.int c))
    (fun i env s => ∃ (u5 u6 u7 u8 u9 : Option D) (rs : List (List Int)), env = [some (.obj a), some (.int n), some (.lst menu), some (.obj p), some (.obj q), u5, u6, u7, u8, u9] ∧ Strm a b k' s ∧ Kp [a, b] st s ∧
      s[p]? = some (.lst (cols.map fun c : Nat => D.int c)) ∧ s[q]? = some (.lst (rs.map rowD)) ∧ Red n cols 20 i 0 rs ∧ RedB cols 20 20 i 0 rs) ?_ ?_ ?_ ?_
  · walk_at "wp"
    exact ⟨_, by simp only [seqOf, lstOf, g], rfl, _, _, _, _, _, rs, rfl, S, K, g, gq, R0, U0⟩
  · rintro i env s ⟨u5, u6, u7, u8, u9, rs, rfl, _, _, g, _⟩
    simp only [seqOf, lstOf, g]
  · rintro i d env s hd ⟨u5, u6, u7, u8, u9, rs, rfl, S, K, g, gq, R, U⟩
    obtain ⟨x, hx, rfl⟩ := enumL_get hd
    rw [List.getElem?_map] at hx
    cases ec : cols[i]? with
    | none => rw [ec] at hx; cases hx
    | some c =>
    rw [ec] at hx
    cases hx
    have hi := (List.getElem?_eq_some_iff.mp ec).1
    have hci : cols.getD i 0 = c := by rw [List.getD_eq_getElem?_getD, ec]; rfl
    have hcn : c < n := hc c (List.mem_of_getElem? ec)
    refine ⟨_, rfl, ?_⟩
    refine ws_for (rngL 0 (i : Nat), fun _ => True)
      (fun j env s => ∃ (u7 u8 u9 : Option D) (rs : List (List Int)), env = [some (.obj a), some (.int n), some (.lst menu), some (.obj p), some (.obj q), some (.int c), some (.int i), u7, u8, u9] ∧ Strm a b k' s ∧ Kp [a, b] st s ∧
        s[p]? = some (.lst (cols.map fun c : Nat => D.int c)) ∧ s[q]? = some (.lst (rs.map rowD)) ∧ Red n cols 20 i j rs ∧ RedB cols 20 20 i j rs) ?_ ?_ ?_ ?_
    · walk_at "wp"
      exact ⟨i, rfl, by omega, by omega, rfl, _, _, _, rs, rfl, S, K, g, gq, R, U⟩
    · exact fun _ _ _ _ => trivial
    · rintro j d env s hd ⟨u7, u8, u9, rs, rfl, S, K, g, gq, R, U⟩
      obtain ⟨rfl, hj⟩ := rngL_get hd
      rw [Int.zero_add] at *
      have hji : j < i := by omega
      have hil : i < rs.length := by rw [R.len]; exact hi
      have hjl : j < rs.length := by omega
      have rj : (rs.map rowD)[j]? = some (rowD (rs.getD j [])) := by rw [List.getElem?_map, List.getD_eq_getElem?_getD, List.getElem?_eq_getElem hjl]; rfl
      have ri : (rs.map rowD)[i]? = some (rowD (rs.getD i [])) := by rw [List.getElem?_map, List.getD_eq_getElem?_getD, List.getElem?_eq_getElem hil]; rfl
      have sq : seqOf s (.obj q) = some (rs.map rowD) := by simp only [seqOf, lstOf, gq]
      have hp0 := R.pos i hil
      have hb0 := R.bnd0 i (Nat.le_refl _)
      rw [hci] at hp0
      refine ⟨_, rfl, ?_⟩
      walk_at "wp"
      refine wp_ixL sq (atI_at rj) ?_
      walk_at "wp"
      refine wp_ixR (by rw [R.row j hjl]; exact hcn) ?_
      walk_at "wp"
      refine wp_ixL sq (atI_at ri) ?_
      walk_at "wp"
      refine wp_ixR (by rw [R.row i hil]; exact hcn) ?_
      refine wp_fdivL (i := ent rs j c) (j := ent rs i c) (by omega) ?_
      walk_at "wp"
      refine wp_ixL sq (atI_at ri) ?_
      walk_at "wp"
      refine wp_ixL sq (atI_at rj) ?_
      walk_at "wp"
      refine ⟨rfl, plus_ok (e1 := 21 * (i + 1)) (e2 := 20) ?_ ?_ (by omega) (by rw [R.row i hil]; omega) fun s1 K1 => ?_⟩
      · rw [Int.zero_sub, Int.natAbs_neg]
        exact Nat.lt_of_le_of_lt (fdiv_abs hp0) (R.bnd2 j hji (Nat.le_refl _) c)
      · intro x hx
        obtain ⟨c', hc', rfl⟩ := mem_getD (d := 0) hx
        exact hb0 c'
      walk_at "wp"
      have gq1 := K1.at' _ _ (by simp) gq
      refine wp_setD gq1 (j := j) (by unfold ixN; rw [if_pos (by omega), if_pos (by rw [List.length_map]; omega), Int.toNat_natCast]) ?_
      rw [← List.map_set]
      refine ⟨_, _, _, _, rfl, (S.kp K1).set hq _, (K.trans (K1.more (by simp))).set (.inl hlq) _, set_get_ne (Ne.symm hpq) (K1.at' _ _ (by simp) g), set_get gq1, ?_, ?_⟩
      · exact R.step asc hji hil _ (by rw [hci])
      · exact U.step R asc hji hil _ (by rw [hci])
    · rintro env s ⟨u7, u8, u9, rs, rfl, S, K, g, gq, R, U⟩
      rw [show (rngL 0 ((i : Nat) : Int), fun _ : Sto => True).1 = rngL 0 i from rfl, rngL_len, Int.sub_zero, Int.toNat_natCast] at R U
      exact ⟨_, _, _, _, _, rs, rfl, S, K, g, gq, R.next, U.next⟩
  rintro env s ⟨u5, u6, u7, u8, u9, rs, rfl, S, K, g, gq, R, U⟩
  rw [show (enumL (cols.map fun c : Nat => D.int c), fun st' => seqOf st' (.obj p) = some (cols.map fun c : Nat => D.int c)).1 = enumL (cols.map fun c : Nat => D.int c) from rfl, enumL_len, List.length_map] at R U
  walk_at "wp"
  refine wp_tuple (xs := rs.map rowD) (by simp only [seqOf, lstOf, gq]) ?_
  refine fin rs k' s (R.isB asc hc) (fun r hr j => ?_) S hk2 K
  obtain ⟨h, hh, rfl⟩ := mem_getD (d := []) hr
  refine Nat.lt_of_lt_of_le (U.all R asc hh j) (Nat.pow_le_pow_right (by decide) ?_)
  have : (20 + 1) * cols.length ≤ 21 * n := Nat.mul_le_mul_left _ (by
    have := asc_len (lo := 0) asc fun x hx => ⟨Nat.zero_le _, hc x hx⟩
    omega)
  omega


local macro_rules | `(tactic| walk_at "wp") => `(tactic| repeat (first
  | with_reducible refine ws_seq ?_
  | with_reducible refine ws_set ?_
  | with_reducible refine ws_ret ?_
  | with_reducible refine ws_if ?_
  | with_reducible refine ws_setI ?_
  | with_reducible refine ws_expr ?_
  | with_reducible refine ws_nil ?_
  | with_reducible refine wp_var (by with_unfolding_all rfl) ?_
  | with_reducible refine wp_c ?_
  | with_reducible refine wp_op ?_
  | with_reducible refine wp_un ?_
  | with_reducible refine wp_and ?_
  | with_reducible refine wp_or ?_
  | with_reducible refine wp_not ?_
  | with_reducible refine wp_tst ?_
  | with_reducible refine wp_tand ?_
  | with_reducible refine wp_tor ?_
  | with_reducible refine wp_tnot ?_
  | with_reducible refine wp_chain ?_
  | with_reducible refine wp_ife ?_
  | with_reducible refine wa_nil ?_
  | with_reducible refine wa_cons ?_
  | with_reducible refine wp_lst ?_
  | with_reducible refine wp_tup ?_
  | with_reducible refine wp_new ?_
  | with_reducible refine wp_fn ?_
  | with_reducible refine wp_fn1 ?_
  | with_reducible refine wp_fn2 ?_
  | with_reducible refine wp_call ?_
  | with_reducible refine wp_lm ?_
  | with_reducible refine wp_slice ?_
  | with_reducible refine wo_none ?_
  | with_reducible refine wo_some ?_
  | with_reducible refine wi_seq ?_
  | with_reducible refine wi_enum ?_
  | with_reducible refine wi_rng1 ?_
  | with_reducible refine wi_rng2 ?_
  | with_reducible refine wi_zip ?_
  | with_reducible refine wp_addI ?_
  | with_reducible refine wp_subI ?_
  | with_reducible refine wp_negI ?_
  | with_reducible refine wp_gtI ?_
  | with_reducible refine wp_ltI ?_
  | with_reducible refine wp_geI ?_
  | with_reducible refine wp_leI ?_
  | with_reducible refine wp_eqF ?_
  | with_reducible refine wp_neF ?_
  | with_reducible refine ex_bl ?_
  | (with_reducible refine if_tt ?_)
  | (with_reducible refine if_ff ?_)
  | (with_reducible refine And.intro (show List.length (List.cons _ _) ≤ 1000000 by simp only [List.length_cons, List.length_nil]; decide) ?_)
  | (with_reducible refine And.intro (show List.length List.nil ≤ 1000000 by decide) ?_)
  | (with_reducible refine And.intro (show List.length (List.cons _ _) = _ from rfl) ?_)))
/-- a drawn form, entries from -9 to 9 -/
theorem form_ok {a b k n : Nat} {st : Sto} {Q : D → Sto → Prop} (h : Strm a b k st) (hk : k < 2 ^ 30) (hn : n ≤ 1000) (fin : ∀ (f : List Int) k' st', f.length = n → (∀ j, (vf f j).natAbs < 2 ^ 4) → Strm a b k' st' → k' ≤ k + n → Kp [a, b] st st' → Q (rowD f) st') : Wp (hm__law_form [.obj a, .int n]) st Q := by
  refine ws_run ?_
  show Ws hb__law_form [some (.obj a), some (.int n), none] st _ _ _ _
  unfold hb__law_form
  walk_at "wp"
  refine wl_fs (a := a) (b := b) ?_
  walk_at "wp"
  refine ⟨n, rfl, by omega, by omega, fun _ => trivial, Kp.refl _ _, k, 1, fun i acc => ∃ f : List Int, acc = f.map .int ∧ f.length = i ∧ ∀ x ∈ f, x.natAbs < 2 ^ 4, h, ⟨[], rfl, rfl, by simp⟩, ?_, ?_⟩
  · rintro i d acc s1 k3 hd ⟨f, rfl, hfl, hfb⟩ S1 hk3 K1
    obtain ⟨rfl, hi⟩ := rngL_get hd
    refine ⟨_, rfl, Wp.pure ?_⟩
    rw [if_pos rfl]
    walk_at "wp"
    refine draw S1 (by omega) (by decide) (by decide) fun v s2 hv1 hv2 S2 K2 => ?_
    walk_at "wp"
    refine ⟨by rw [List.length_map]; omega, ⟨f ++ [v - 9], by simp, by simp [hfl], fun x hx => ?_⟩, K2, _, S2, by omega⟩
    rcases List.mem_append.mp hx with hx | hx
    · exact hfb x hx
    · rw [List.mem_singleton.mp hx]; omega
  · rintro acc s1 k3 ⟨f, rfl, hfl, hfb⟩ S1 hk3 K1
    rw [show (rngL 0 (n : Int), fun _ : Sto => True).1 = rngL 0 n from rfl, rngL_len, Int.sub_zero, Int.toNat_natCast] at hfl hk3
    walk_at "wp"
    refine wp_tuple (xs := f.map .int) rfl (fin f k3 s1 hfl (fun j => ?_) S1 (by omega) K1)
    by_cases hj : j < f.length
    · obtain hm := getD_mem (d := (0 : Int)) hj
      exact hfb _ hm
    · show (f.getD j 0).natAbs < _
      rw [getD_ge (by omega)]; decide
end Lat

namespace Lk16
open PySem PySem.Spec PyProof.Rows L2 Mir Lat

local macro_rules | `(tactic| walk_at "wp") => `(tactic| repeat (first
  | with_reducible refine ws_seq ?_
  | with_reducible refine ws_set ?_
  | with_reducible refine ws_ret ?_
  | with_reducible refine ws_if ?_
  | with_reducible refine ws_setI ?_
  | with_reducible refine ws_expr ?_
  | with_reducible refine ws_nil ?_
  | with_reducible refine wp_var (by with_unfolding_all rfl) ?_
  | with_reducible refine wp_c ?_
  | with_reducible refine wp_op ?_
  | with_reducible refine wp_un ?_
  | with_reducible refine wp_and ?_
  | with_reducible refine wp_or ?_
  | with_reducible refine wp_not ?_
  | with_reducible refine wp_tst ?_
  | with_reducible refine wp_tand ?_
  | with_reducible refine wp_tor ?_
  | with_reducible refine wp_tnot ?_
  | with_reducible refine wp_chain ?_
  | with_reducible refine wp_ife ?_
  | with_reducible refine wa_nil ?_
  | with_reducible refine wa_cons ?_
  | with_reducible refine wp_lst ?_
  | with_reducible refine wp_tup ?_
  | with_reducible refine wp_new ?_
  | with_reducible refine wp_fn ?_
  | with_reducible refine wp_fn1 ?_
  | with_reducible refine wp_fn2 ?_
  | with_reducible refine wp_call ?_
  | with_reducible refine wp_lm ?_
  | with_reducible refine wp_slice ?_
  | with_reducible refine wo_none ?_
  | with_reducible refine wo_some ?_
  | with_reducible refine wi_seq ?_
  | with_reducible refine wi_enum ?_
  | with_reducible refine wi_rng1 ?_
  | with_reducible refine wi_rng2 ?_
  | with_reducible refine wi_zip ?_
  | with_reducible refine wp_addI ?_
  | with_reducible refine wp_subI ?_
  | with_reducible refine wp_negI ?_
  | with_reducible refine wp_gtI ?_
  | with_reducible refine wp_ltI ?_
  | with_reducible refine wp_geI ?_
  | with_reducible refine wp_leI ?_
  | with_reducible refine wp_eqF ?_
  | with_reducible refine wp_neF ?_
  | with_reducible refine ex_bl ?_
  | (with_reducible refine if_tt ?_)
  | (with_reducible refine if_ff ?_)
  | (with_reducible refine And.intro (show List.length (List.cons _ _) ≤ 1000000 by simp only [List.length_cons, List.length_nil]; decide) ?_)
  | (with_reducible refine And.intro (show List.length List.nil ≤ 1000000 by decide) ?_)
  | (with_reducible refine And.intro (show List.length (List.cons _ _) = _ from rfl) ?_)))
/-- a lattice by its true basis, of known size -/
structure Lt (n K : Nat) (rs : List (List Int)) : Prop where
  B : IsB n rs
  P : Prs n K 100 (Spn (Rows rs))
theorem Lt.vs {n K : Nat} {rs : List (List Int)} (h : Lt n K rs) (hd : K + n ≤ 15) : Vs n 1579 rs := ⟨h.B.len, fun r hr c => Prs.small h.P hd h.B (fun _ => Iff.rfl) hr c⟩
theorem lim_r {n : Nat} (hn : n ≤ 4) : (n + 4) * (Rb n (sb 4 1579) + 2) < 134217000 := by
  have : n = 0 ∨ n = 1 ∨ n = 2 ∨ n = 3 ∨ n = 4 := by omega
  rcases this with rfl | rfl | rfl | rfl | rfl <;> decide
theorem lim_j {n : Nat} (hn : n ≤ 4) : (n + 4) * (Rb n 1579 + 2) < 134217000 := by
  have : n = 0 ∨ n = 1 ∨ n = 2 ∨ n = 3 ∨ n = 4 := by omega
  rcases this with rfl | rfl | rfl | rfl | rfl <;> decide
theorem lim_m {n : Nat} (hn : n ≤ 4) : (n + n + 4) * (Rb (n + n) 1579 + 2) < 134217000 := by
  have : n = 0 ∨ n = 1 ∨ n = 2 ∨ n = 3 ∨ n = 4 := by omega
  rcases this with rfl | rfl | rfl | rfl | rfl <;> decide
theorem lim_c {n : Nat} (hn : n ≤ 4) (k : Nat) (hk : k ≤ n) : (k + 4) * (Rb k (1579 + 75) + 2) < 134217000 := by
  have : k = 0 ∨ k = 1 ∨ k = 2 ∨ k = 3 ∨ k = 4 := by omega
  rcases this with rfl | rfl | rfl | rfl | rfl <;> decide
section
variable {n Ka Kb : Nat} {as bs : List (List Int)} {st : Sto} {Q : D → Sto → Prop}
theorem joinL {sz : D} (n1 : 1 ≤ n) (hn : n ≤ 4) (A : Lt n Ka as) (B : Lt n Kb bs) (ha : Ka + n ≤ 15) (hb : Kb + n ≤ 15)
    (fin : ∀ rs st', Lt n (Ka + Kb) rs → (∀ x, Spn (Rows rs) x ↔ ∃ u v, Spn (Rows as) u ∧ Spn (Rows bs) v ∧ ∀ c, x c = u c + v c) → Kp [] st st' → Q (matD rs) st') : Wp (hm_join_of [matD as, matD bs, sz]) st Q :=
  join_ok n1 (by omega) (A.vs ha) (B.vs hb) (by have := A.B.count; omega) (by have := B.B.count; omega) (lim_j hn) fun rs st' Br e K => fin rs st' ⟨Br, (A.P.join B.P).cong e⟩ e K
theorem meetL (n1 : 1 ≤ n) (hn : n ≤ 4) (A : Lt n Ka as) (B : Lt n Kb bs) (ha : Ka + n ≤ 15) (hb : Kb + n ≤ 15)
    (fin : ∀ rs st', Lt n (Ka + Kb + n) rs → (∀ x, Spn (Rows rs) x ↔ Spn (Rows as) x ∧ Spn (Rows bs) x) → Kp [] st st' → Q (matD rs) st') : Wp (hm_meet_of [matD as, matD bs, .int n]) st Q :=
  meet_ok n1 (by omega) (A.vs ha) (B.vs hb) (by have := A.B.count; omega) (by have := B.B.count; omega) (lim_m hn) fun rs st' Br e K => fin rs st' ⟨Br, (A.P.meet B.P).cong e⟩ e K
end
theorem same {n K K' : Nat} {rs ss : List (List Int)} (A : Lt n K rs) (B : Lt n K' ss) (h : ∀ x, Spn (Rows rs) x ↔ Spn (Rows ss) x) : rs = ss :=
  IsB.unique A.B B.B (fun x hx => (h x).mp (.of hx)) fun x hx => (h x).mpr (.of hx)
/-- three lattices -/
theorem lattices_ok {k n : Nat} {st : Sto} {Q : D → Sto → Prop} (h : Strm 1 0 k st) (hk : k < 2 ^ 20) (n1 : 1 ≤ n) (hn : n ≤ 4)
    (fin : ∀ as bs cs k' st', Lt n 2 as → Lt n 2 bs → Lt n 2 cs → Strm 1 0 k' st' → k' < 2 ^ 29 → Kp [1, 0] st st' → Q (.lst [matD as, matD bs, matD cs]) st') : Wp (m__law_lattices [.obj 1, .int n]) st Q := by
  refine ws_run ?_
  show Ws b__law_lattices [some (.obj 1), some (.int n), none, none, none, none] st _ _ _ _
  unfold b__law_lattices
  walk_at "wp"
  refine basis6_ok (n := n) h (by omega) (by omega) fun r0 k1 s1 B0 b0 S1 hk1 K1 => ?_
  walk_at "wp"
  have P0 : Prs n 0 84 (Spn (Rows r0)) := (Prs.base B0.len b0).mono (by omega)
  have Sa := S1.app (.lst [matD r0])
  have Ka : Kp [1, 0] st (s1 ++ [.lst [matD r0]]) := K1.trans (Kp.app _ _ _)
  have g0 : (s1 ++ [O.lst [matD r0]])[s1.length]? = some (.lst [matD r0]) := app_get
  have hp : s1.length ∉ [1, 0] := S1.nin (Nat.le_refl _)
  have hlp : st.length ≤ s1.length := K1.len
  generalize s1 ++ [O.lst [matD r0]] = s0 at Sa Ka g0 ⊢
  generalize s1.length = p at g0 hp hlp ⊢
  clear S1 K1
  refine ws_for (rngL 0 2, fun _ => True)
    (fun i env s => ∃ (w3 w4 w5 : Option D) (ms : List (List (List Int))) (k' : Nat), env = [some (.obj 1), some (.int n), some (.obj p), w3, w4, w5] ∧ Strm 1 0 k' s ∧ k' ≤ k1 + 3000 * i ∧ Kp [1, 0] st s ∧ s[p]? = some (.lst (ms.map matD)) ∧ ms.length = i + 1 ∧
      ∀ m ∈ ms, IsB n m ∧ Prs n i (84 + 8 * i) (Spn (Rows m))) ?_ (fun _ _ _ _ => trivial) ?_ ?_
  · walk_at "wp"
    exact ⟨2, rfl, by decide, by decide, rfl, _, _, _, [r0], k1, rfl, Sa, by omega, Ka, g0, rfl, fun m hm => by rw [List.mem_singleton.mp hm]; exact ⟨B0, P0⟩⟩
  · rintro i d env s hd ⟨w3, w4, w5, ms, k', rfl, S, hk', K, g, hml, hm⟩
    obtain ⟨rfl, hi⟩ := rngL_get hd
    rw [Int.zero_add] at *
    have hi2 : i < 2 := by have : (rngL 0 2).length = 2 := rfl; omega
    refine ⟨_, rfl, ?_⟩
    walk_at "wp"
    refine draw S (by omega) (by decide) (by decide) fun way s2 hw1 hw2 S2 K2 => ?_
    walk_at "wp"
    have g2 := K2.at' _ _ hp g
    refine wp_len (xs := ms.map matD) (by simp only [seqOf, lstOf, g2]) ?_
    walk_at "wp"
    rw [List.length_map]
    refine draw S2 (by omega) (by omega) (by rw [hml]; omega) fun v s3 hv1 hv2 S3 K3 => ?_
    walk_at "wp"
    have g3 := K3.at' _ _ hp g2
    obtain ⟨j, rfl⟩ : ∃ j : Nat, v = j := ⟨v.toNat, by omega⟩
    have hj : j < ms.length := by omega
    have mj : ms.getD j [] ∈ ms := getD_mem hj
    refine wp_ixL (xs := ms.map matD) (by simp only [seqOf, lstOf, g3]) (atI_at (x := matD (ms.getD j [])) (by rw [List.getElem?_map, List.getD_eq_getElem?_getD, List.getElem?_eq_getElem hj]; rfl)) ?_
    walk_at "wp"
    obtain ⟨Bj, Pj⟩ := hm _ mj
    have Lj : Lt n 2 (ms.getD j []) := ⟨Bj, (Pj.more (by omega)).mono (by omega)⟩
    have Vj := Lj.vs (by omega)
    generalize ms.getD j [] = here at Bj Pj Lj Vj
    have hk3 : k' + 1 + 1 < 2 ^ 21 := by omega
    have K23 := (K.trans K2).trans K3
    clear K2 K3 S S2 g g2 mj
    have tail : ∀ (rs : List (List Int)) (k4 : Nat) (s4 : Sto), IsB n rs → Prs n (i + 1) (84 + 8 * (i + 1)) (Spn (Rows rs)) → Strm 1 0 k4 s4 → k4 ≤ k' + 1 + 1 + 2000 → Kp [1, 0] s3 s4 →
        Ws (sExpr (eLM (fun d ds => fn2 (insD d) ds) (eVar 2) (aCons (eCall 2 m__law_draw [] (aCons (eVar 0) (aCons (eOp addD (eFn (fn1 lenD) (aCons (eVar 2) aNil)) (eC (.int 1))) aNil))) (aCons (eVar 5) aNil))))
          [some (.obj 1), some (.int n), some (.obj p), some (.int i), some (.int way), some (matD rs)] s4
          (fun env s => ∃ (w3 w4 w5 : Option D) (ms : List (List (List Int))) (k' : Nat), env = [some (.obj 1), some (.int n), some (.obj p), w3, w4, w5] ∧ Strm 1 0 k' s ∧ k' ≤ k1 + 3000 * (i + 1) ∧ Kp [1, 0] st s ∧ s[p]? = some (.lst (ms.map matD)) ∧ ms.length = i + 1 + 1 ∧
            ∀ m ∈ ms, IsB n m ∧ Prs n (i + 1) (84 + 8 * (i + 1)) (Spn (Rows m))) (fun _ _ => False) (fun _ _ => False) (fun _ _ => False) := by
      intro rs k4 s4 Br Pr S4 hk4 K4
      have g4 := K4.at' _ _ hp g3
      walk_at "wp"
      refine ⟨by simp only [lstOf, g4]; rfl, ?_⟩
      walk_at "wp"
      refine wp_len (xs := ms.map matD) (by simp only [seqOf, lstOf, g4]) ?_
      walk_at "wp"
      rw [List.length_map]
      refine draw S4 (by omega) (by omega) (by rw [hml]; omega) fun u s5 hu1 hu2 S5 K5 => ?_
      walk_at "wp"
      have g5 := K5.at' _ _ hp g4
      refine wp_ins g5 hu1 (by omega) (by rw [List.length_map]; omega) ?_
      have e : (ms.map matD).take u.toNat ++ [matD rs] ++ (ms.map matD).drop u.toNat = (ms.take u.toNat ++ [rs] ++ ms.drop u.toNat).map matD := by simp [List.map_take, List.map_drop]
      rw [e]
      refine ⟨_, _, _, ms.take u.toNat ++ [rs] ++ ms.drop u.toNat, _, rfl, S5.set hp _, by omega, ((K23.trans K4).trans K5).set (.inl hlp) _, set_get g5, ?_, fun m hmm => ?_⟩
      · simp only [List.length_append, List.length_take, List.length_drop, List.length_singleton]
        omega
      · rcases List.mem_append.mp hmm with hmm | hmm
        · rcases List.mem_append.mp hmm with hmm | hmm
          · obtain ⟨b, q⟩ := hm m (List.mem_of_mem_take hmm)
            exact ⟨b, (q.more (by omega)).mono (by omega)⟩
          · rw [List.mem_singleton.mp hmm]; exact ⟨Br, Pr⟩
        · obtain ⟨b, q⟩ := hm m (List.mem_of_mem_drop hmm)
          exact ⟨b, (q.more (by omega)).mono (by omega)⟩
    refine if_bl (fun w0 => ?_) fun w0 => ?_
    · walk_at "wp"
      refine form_ok (n := n) S3 (by omega) (by omega) fun f k4 s4 fl fb S4 hk4 K4 => ?_
      walk_at "wp"
      refine draw S4 (by omega) (by decide) (by decide) fun v s5 hv1 hv2 S5 K5 => ?_
      have hmod : ∃ m : Nat, atI [D.int 0, .int 2, .int 6, .int 35] v = some (.int m) ∧ m < 64 := by
        have : v = 0 ∨ v = 1 ∨ v = 2 ∨ v = 3 := by omega
        rcases this with rfl | rfl | rfl | rfl
        · exact ⟨0, rfl, by decide⟩
        · exact ⟨2, rfl, by decide⟩
        · exact ⟨6, rfl, by decide⟩
        · exact ⟨35, rfl, by decide⟩
      obtain ⟨m, em, hm64⟩ := hmod
      refine wp_ixL rfl em ?_
      walk_at "wp"
      refine restrict_ok (n := n) (b := 1579) (s := 4) n1 (by omega) Bj Vj.bd fl fb (Nat.lt_trans hm64 (by decide)) (lim_r hn) fun rs s6 Br e K6 => ?_
      refine ws_mono (tail rs _ s6 Br ((Pj.cut (by omega) (s := 4) (m := m) fb (Nat.lt_of_lt_of_le hm64 ?_) (by omega)).cong e) (S5.kp K6) (by omega) ((K4.trans K5).trans (K6.more (by simp)))) (fun _ _ z => z) (fun _ _ z => z.elim) (fun _ _ z => z.elim) (fun _ _ z => z.elim)
      show 2 ^ 6 ≤ _
      exact Nat.pow_le_pow_right (by decide) (by omega)
    · walk_at "wp"
      refine if_bl (fun w1 => ?_) fun w1 => ?_
      · walk_at "wp"
        refine basis6_ok (n := n) S3 (by omega) (by omega) fun r1 k4 s4 B1 b1 S4 hk4 K4 => ?_
        walk_at "wp"
        have P1 : Prs n 0 84 (Spn (Rows r1)) := (Prs.base B1.len b1).mono (by omega)
        have L1 : Lt n 2 r1 := ⟨B1, (P1.more (by omega)).mono (by omega)⟩
        refine join_ok (n := n) (b := 1579) n1 (by omega) Vj (L1.vs (by omega)) (by have := Bj.count; omega) (by have := B1.count; omega) (lim_j hn) fun rs s5 Br e K5 => ?_
        exact ws_mono (tail rs _ s5 Br ((((Pj.mono (b' := 84 + 8 * (i + 1)) (by omega)).join (P1.mono (b' := 84 + 8 * (i + 1)) (by omega))).cong e).more (by omega)) (S4.kp K5) (by omega) (K4.trans (K5.more (by simp)))) (fun _ _ z => z) (fun _ _ z => z.elim) (fun _ _ z => z.elim) (fun _ _ z => z.elim)
      · walk_at "wp"
        refine basis6_ok (n := n) S3 (by omega) (by omega) fun r1 k4 s4 B1 b1 S4 hk4 K4 => ?_
        have P1 : Prs n 0 84 (Spn (Rows r1)) := (Prs.base B1.len b1).mono (by omega)
        exact ws_mono (tail r1 _ s4 B1 ((P1.more (by omega)).mono (by omega)) S4 (by omega) K4) (fun _ _ z => z) (fun _ _ z => z.elim) (fun _ _ z => z.elim) (fun _ _ z => z.elim)
  · rintro env s ⟨w3, w4, w5, ms, k', rfl, S, hk', K, g, hml, hm⟩
    rw [show (rngL 0 2, fun _ : Sto => True).1.length = 2 from rfl] at *
    match ms, hml, hm, g with
    | [as, bs, cs], _, hm, g =>
      have L : ∀ m ∈ [as, bs, cs], Lt n 2 m := fun m h => ⟨(hm m h).1, (hm m h).2.mono (by decide)⟩
      walk_at "wp"
      refine wp_frz ?_
      walk_at "wp"
      exact wp_frzD g (fin as bs cs k' _ (L _ (by simp)) (L _ (by simp)) (L _ (by simp)) (S.set hp _) (by omega) (K.set (.inl hlp) _))
theorem law_true (ns : List Int) : ∃ st, m_law [.scr ns] [] = .ok (.bl true) st := by
  suffices h : Wp (m_law [.scr ns]) [] fun d _ => d = .bl true by
    obtain ⟨d, st, e, rfl⟩ := h
    exact ⟨st, e⟩
  refine ws_run ?_
  show Ws b_law [some (.scr ns), none, none, none, none, none, none, none, none, none] [] _ _ _ _
  unfold b_law
  walk_at "wp"
  refine wp_listN (xs := ns.map .int) rfl ?_
  walk_at "wp"
  have S : Strm 1 0 0 [.lst (ns.map .int), .lst [.obj 0, .int 0, .int 0, .int 0]] := ⟨ns, 0, 0, 0, rfl, rfl, by decide, by decide, by decide, by decide, by decide, by decide⟩
  simp only [List.nil_append, List.cons_append, List.length_cons, List.length_nil, Nat.zero_add]
  generalize [O.lst (ns.map D.int), O.lst [.obj 0, .int 0, .int 0, .int 0]] = st at S ⊢
  refine draw S (by decide) (by decide) (by decide) fun v s1 hv1 hv2 S1 K1 => ?_
  walk_at "wp"
  obtain ⟨n, en⟩ : ∃ n : Nat, 1 + v = n := ⟨(1 + v).toNat, by omega⟩
  rw [en]
  have n1 : 1 ≤ n := by omega
  have hn : n ≤ 4 := by omega
  refine ws_setT ?_
  walk_at "wp"
  refine lattices_ok (n := n) S1 (by decide) n1 hn fun as bs cs k2 s2 A B C S2 hk2 K2 => ?_
  refine ⟨_, rfl, ?_⟩
  have la : 2 + n ≤ 15 := by omega
  refine ws_seq (ws_par ?_)
  walk_at "wp"
  refine meetL n1 hn A B la la fun both s3 Bo eBo K3 => ?_
  walk_at "wp"
  refine joinL n1 hn A B la la fun eith s4 Ei eEi K4 => ?_
  have lb : 2 + 2 + n + n ≤ 15 := by omega
  have le : 2 + 2 + n ≤ 15 := by omega
  walk_at "wp"
  refine meetL n1 hn B A la la fun m1 s5 M1 e1 K5 => ?_
  have q1 : both = m1 := same Bo M1 fun x => by rw [eBo, e1]; exact And.comm
  subst q1
  walk_at "wp"
  refine wp_neM ?_
  walk_at "wp"
  refine if_not (by simp) ?_
  walk_at "wp"
  refine joinL n1 hn B A la la fun m2 s6 M2 e2 K6 => ?_
  have q2 : eith = m2 := same Ei M2 fun x => by
    rw [eEi, e2]
    exact ⟨fun ⟨u, v, h1, h2, e⟩ => ⟨v, u, h2, h1, fun c => by rw [e]; omega⟩, fun ⟨u, v, h1, h2, e⟩ => ⟨v, u, h2, h1, fun c => by rw [e]; omega⟩⟩
  subst q2
  walk_at "wp"
  refine wp_neM ?_
  walk_at "wp"
  refine if_not (by simp) ?_
  walk_at "wp"
  have isb : ∀ {K : Nat} {rs : List (List Int)} {s : Sto} {Q : D → Sto → Prop}, Lt n K rs → (∀ s', Kp [] s s' → Q (.bl true) s') → Wp (hm_is_basis [matD rs, .int n]) s Q := fun {K rs s Q} L q =>
    is_basis_ok (n := n) (puD_mat rs) (by omega) (fun ds e => by cases e; rw [List.length_map]; have := L.B.count; omega) fun s' K => by rw [bas_true L.B]; exact q s' K
  refine isb Bo fun s7 K7 => ?_
  walk_at "wp"
  refine if_not rfl ?_
  walk_at "wp"
  refine meetL n1 hn Bo C lb la fun m3 s8 M3 e3 K8 => ?_
  walk_at "wp"
  refine meetL n1 hn B C la la fun m4 s9 M4 e4 K9 => ?_
  walk_at "wp"
  refine meetL n1 hn A M4 la lb fun m5 s10 M5 e5 K10 => ?_
  have q5 : m3 = m5 := same M3 M5 fun x => by rw [e3, e5, e4, eBo]; exact and_assoc
  subst q5
  walk_at "wp"
  refine wp_neM ?_
  walk_at "wp"
  refine if_not (by simp) ?_
  walk_at "wp"
  refine isb Ei fun s11 K11 => ?_
  walk_at "wp"
  refine if_not rfl ?_
  walk_at "wp"
  have lj : 2 + 2 + n ≤ 15 := le
  refine joinL n1 hn Ei C lj la fun m6 s12 M6 e6 K12 => ?_
  walk_at "wp"
  refine joinL n1 hn B C la la fun m7 s13 M7 e7 K13 => ?_
  walk_at "wp"
  refine joinL n1 hn A M7 la lj fun m8 s14 M8 e8 K14 => ?_
  have q8 : m6 = m8 := same M6 M8 fun x => by
    rw [e6, e8]
    constructor
    · rintro ⟨u, v, hu, hv, e⟩
      obtain ⟨u1, u2, h1, h2, e'⟩ := (eEi u).mp hu
      exact ⟨u1, fun c => u2 c + v c, h1, (e7 _).mpr ⟨u2, v, h2, hv, fun _ => rfl⟩, fun c => by rw [e, e']; dsimp only; omega⟩
    · rintro ⟨u, v, hu, hv, e⟩
      obtain ⟨u1, u2, h1, h2, e'⟩ := (e7 v).mp hv
      exact ⟨fun c => u c + u1 c, u2, (eEi _).mpr ⟨u, u1, hu, h1, fun _ => rfl⟩, h2, fun c => by rw [e, e']; dsimp only; omega⟩
  subst q8
  walk_at "wp"
  refine wp_neM ?_
  walk_at "wp"
  refine if_not (by simp) ?_
  walk_at "wp"
  have ps : ∀ {rs : List (List Int)} {u v : Vf}, Spn (Rows rs) u → Spn (Rows rs) v → Spn (Rows rs) fun c => u c + v c := fun h k => h.plus k
  refine meetL n1 hn A A la la fun m9 s15 M9 e9 K15 => ?_
  have q9 : m9 = as := same M9 A fun x => by rw [e9]; exact and_self_iff
  subst q9
  walk_at "wp"
  refine wp_neM ?_
  walk_at "wp"
  refine if_not (by simp) ?_
  walk_at "wp"
  refine joinL n1 hn A A la la fun m10 s16 M10 e10 K16 => ?_
  have q10 : m10 = m9 := same M10 A fun x => by
    rw [e10]
    exact ⟨fun ⟨u, v, h1, h2, e⟩ => (ps h1 h2).cast fun c => (e c).symm, fun h => ⟨x, fun _ => 0, h, .zero, fun c => by dsimp only; omega⟩⟩
  subst q10
  walk_at "wp"
  refine wp_neM ?_
  walk_at "wp"
  refine if_not (by simp) ?_
  walk_at "wp"
  refine joinL n1 hn A Bo la lb fun m11 s17 M11 e11 K17 => ?_
  have q11 : m11 = m10 := same M11 A fun x => by
    rw [e11]
    exact ⟨fun ⟨u, v, h1, h2, e⟩ => (ps h1 ((eBo v).mp h2).1).cast fun c => (e c).symm, fun h => ⟨x, fun _ => 0, h, .zero, fun c => by dsimp only; omega⟩⟩
  subst q11
  walk_at "wp"
  refine wp_neM ?_
  walk_at "wp"
  refine if_not (by simp) ?_
  walk_at "wp"
  refine meetL n1 hn A Ei la lj fun m12 s18 M12 e12 K18 => ?_
  have q12 : m12 = m11 := same M12 A fun x => by
    rw [e12]
    exact ⟨fun h => h.1, fun h => ⟨h, (eEi x).mpr ⟨x, fun _ => 0, h, .zero, fun c => by dsimp only; omega⟩⟩⟩
  subst q12
  walk_at "wp"
  refine wp_neM ?_
  walk_at "wp"
  refine if_not (by simp) ?_
  walk_at "wp"
  refine joinL n1 hn Bo C lb la fun m13 s19 M13 e13 K19 => ?_
  walk_at "wp"
  refine meetL n1 hn A M13 la (by omega) fun m14 s20 M14 e14 K20 => ?_
  walk_at "wp"
  refine meetL n1 hn A C la la fun m15 s21 M15 e15 K21 => ?_
  walk_at "wp"
  refine joinL n1 hn Bo M15 lb lb fun m16 s22 M16 e16 K22 => ?_
  have q16 : m14 = m16 := same M14 M16 fun x => by
    rw [e14, e13, e16]
    constructor
    · rintro ⟨hx, u, v, hu, hv, e⟩
      refine ⟨u, v, hu, (e15 v).mpr ⟨(hx.sub ((eBo u).mp hu).1).cast fun c => by rw [e]; omega, hv⟩, e⟩
    · rintro ⟨u, v, hu, hv, e⟩
      have v2 := (e15 v).mp hv
      exact ⟨(ps ((eBo u).mp hu).1 v2.1).cast fun c => (e c).symm, u, v, hu, v2.2, e⟩
  subst q16
  walk_at "wp"
  refine wp_neM ?_
  walk_at "wp"
  refine if_not (by simp) ?_
  walk_at "wp"
  have VA := A.vs la
  have VB := B.vs la
  have Vo := Bo.vs lb
  have Ve := Ei.vs lj
  have cA := A.B.count
  have cB := B.B.count
  have cO := Bo.B.count
  have cE := Ei.B.count
  refine includes_ok (n := n) (b := 1579) (t := 1579) (by omega) A.B VA.bd VB.len VB.bd (by omega) (by omega) fun s23 K23 => ?_
  walk_at "wp"
  have inA : ∀ (v : List Int), inS m12 (vf v) = true ↔ Spn (Rows m12) (vf v) := fun v => ⟨fun h => Classical.byContradiction fun z => by rw [inS_false z] at h; exact absurd h (by decide), inS_true⟩
  have sub : (bs.all fun v => inS m12 (vf v)) = true ↔ ∀ x, Spn (Rows bs) x → Spn (Rows m12) x := by
    rw [List.all_eq_true]
    exact ⟨fun h x hx => hx.bind (rows_all fun r hr => (inA r).mp (h r hr)), fun h v hv => (inA v).mpr (h _ (.of (.of hv)))⟩
  have i1 : (bs.all fun v => inS m12 (vf v)) = decide (eith = m12) := by
    rw [Bool.eq_iff_iff, sub, decide_eq_true_iff]
    constructor
    · intro h
      exact same Ei A fun x => by
        rw [eEi]
        exact ⟨fun ⟨u, v, h1, h2, e⟩ => (ps h1 (h v h2)).cast fun c => (e c).symm, fun h => ⟨x, fun _ => 0, h, .zero, fun c => by dsimp only; omega⟩⟩
    · intro e x hx
      rw [← e, eEi]
      exact ⟨fun _ => 0, x, .zero, hx, fun c => by dsimp only; omega⟩
  have i2 : (bs.all fun v => inS m12 (vf v)) = decide (both = bs) := by
    rw [Bool.eq_iff_iff, sub, decide_eq_true_iff]
    constructor
    · intro h
      exact same Bo B fun x => by
        rw [eBo]
        exact ⟨fun h => h.2, fun hx => ⟨h x hx, hx⟩⟩
    · intro e x hx
      rw [← e, eBo] at hx
      exact hx.1
  refine wp_eqM ?_
  rw [i1]
  refine wp_neB ?_
  walk_at "wp"
  refine if_not (by simp) ?_
  walk_at "wp"
  refine wp_eqM ?_
  rw [← i1, i2]
  refine wp_neB ?_
  walk_at "wp"
  refine if_not (by simp) ?_
  walk_at "wp"
  have inc : ∀ {rs vs : List (List Int)} {s : Sto} {Q : D → Sto → Prop} {K K' : Nat}, Lt n K rs → Lt n K' vs → K + n ≤ 15 → K' + n ≤ 15 → (∀ x, Spn (Rows vs) x → Spn (Rows rs) x) → (∀ s', Kp [] s s' → Q (.bl true) s') → Wp (hm_includes [matD rs, matD vs]) s Q := fun {rs vs s Q K K'} L L' h h' hs q => by
    have V := L.vs h
    have V' := L'.vs h'
    have := L.B.count
    have := L'.B.count
    refine includes_ok (n := n) (b := 1579) (t := 1579) (by omega) L.B V.bd V'.len V'.bd (by omega) (by omega) fun s' K => ?_
    rw [List.all_eq_true.mpr fun v hv => inS_true (hs _ (.of (.of hv)))]
    exact q s' K
  refine inc A Bo la lb (fun x hx => ((eBo x).mp hx).1) fun s24 K24 => ?_
  walk_at "wp"
  refine if_not rfl ?_
  walk_at "wp"
  refine inc B Bo la lb (fun x hx => ((eBo x).mp hx).2) fun s25 K25 => ?_
  walk_at "wp"
  refine if_not rfl ?_
  walk_at "wp"
  refine inc Ei A lj la (fun x hx => (eEi x).mpr ⟨x, fun _ => 0, hx, .zero, fun c => by dsimp only; omega⟩) fun s26 K26 => ?_
  walk_at "wp"
  refine if_not rfl ?_
  walk_at "wp"
  refine inc Ei B lj la (fun x hx => (eEi x).mpr ⟨fun _ => 0, x, .zero, hx, fun c => by dsimp only; omega⟩) fun s27 K27 => ?_
  walk_at "wp"
  refine if_not rfl ?_
  walk_at "wp"
  have S27 : Strm 1 0 k2 s27 := (((((((((((((((((((((((((S2.kp K3).kp K4).kp K5).kp K6).kp K7).kp K8).kp K9).kp K10).kp K11).kp K12).kp K13).kp K14).kp K15).kp K16).kp K17).kp K18).kp K19).kp K20).kp K21).kp K22).kp K23).kp K24).kp K25).kp K26).kp K27)
  refine form_ok (n := n) S27 (by omega) (by omega) fun f k3 s28 fl fb S28 hk3 K28 => ?_
  walk_at "wp"
  have gr : ∀ {rs : List (List Int)} {s : Sto} {Q : D → Sto → Prop} {K : Nat}, Lt n K rs → K + n ≤ 15 → (∀ (g : Int) s', 0 ≤ g → (∀ x, Spn (Rows rs) x → g ∣ dt n (vf f) x) → (∀ d : Int, (∀ x, Spn (Rows rs) x → d ∣ dt n (vf f) x) → d ∣ g) → Q (.int g) s') → Wp (hm_grain_of [matD rs, rowD f]) s Q := fun {rs s Q K} L h q => by
    have V := L.vs h
    have := L.B.count
    refine grain_ok (n := n) (b := 1579) (s := 4) (by omega) (by omega) V.len V.bd fl fb (by omega) fun g s' g0 gd gm gb K' => ?_
    refine q g s' g0 (fun x hx => ?_) fun d hd => gm (fun z => d ∣ z) (Int.dvd_zero d) (fun a b x y hx hy => Int.dvd_add (Int.dvd_mul_of_dvd_right hx) (Int.dvd_mul_of_dvd_right hy)) fun r hr => hd _ (.of (.of hr))
    refine hx.all (P := fun x => g ∣ dt n (vf f) x) (by rw [dt_zero]; exact Int.dvd_zero g) fun k u v hu hv => ?_
    obtain ⟨r, hr, rfl⟩ := hu
    have e := dt_lin n (vf f) (vf r) v k 1
    rw [Int.one_mul] at e
    rw [show dt n (vf f) (fun c => k * vf r c + v c) = dt n (vf f) (fun c => k * vf r c + 1 * v c) from dt_cast fun i => by omega, e]
    exact Int.dvd_add (Int.dvd_mul_of_dvd_right (gd r hr)) hv
  refine gr Ei lj fun ge s29 ge0 ged gem => ?_
  walk_at "wp"
  refine gr A la fun ga s30 ga0 gad gam => ?_
  walk_at "wp"
  refine gr B la fun gb s31 gb0 gbd gbm => ?_
  walk_at "wp"
  refine common_ok fun G G0 hG => ?_
  have eG : ge = G := by
    refine Int.dvd_antisymm ge0 G0 ?_ ?_
    · refine (hG ge).mpr ⟨gam ge fun x hx => ged x ((eEi x).mpr ⟨x, fun _ => 0, hx, .zero, fun c => by dsimp only; omega⟩), gbm ge fun x hx => ged x ((eEi x).mpr ⟨fun _ => 0, x, .zero, hx, fun c => by dsimp only; omega⟩)⟩
    · have h := (hG G).mp (Int.dvd_refl G)
      refine gem G fun x hx => ?_
      obtain ⟨u, v, hu, hv, e⟩ := (eEi x).mp hx
      have e' := dt_lin n (vf f) u v 1 1
      rw [Int.one_mul, Int.one_mul] at e'
      rw [show dt n (vf f) x = dt n (vf f) (fun c => 1 * u c + 1 * v c) from dt_cast fun i => by rw [e]; omega, e']
      exact Int.dvd_add (Int.dvd_trans h.1 (gad u hu)) (Int.dvd_trans h.2 (gbd v hv))
  subst eG
  walk_at "wp"
  refine if_not (by simp) ?_
  walk_at "wp"
  refine class_ok (n := n) (b := 1579) (t := 1579) (by omega) Ei.B A.B Ve VA (fun x hx => (eEi x).mpr ⟨x, fun _ => 0, .of hx, .zero, fun c => by dsimp only; omega⟩) (lim_c hn) (by omega) (by decide) fun N1 s32 c1 K32 => ?_
  walk_at "wp"
  refine class_ok (n := n) (b := 1579) (t := 1579) (by omega) B.B Bo.B VB Vo (fun x hx => ((eBo x).mp (.of hx)).2) (lim_c hn) (by omega) (by decide) fun N2 s33 c2 K33 => ?_
  have iso := Inc.iso (A := Spn (Rows m12)) (B := Spn (Rows bs)) (E := Spn (Rows eith)) eEi .zero (fun u v h k => h.sub k) fun u v h k => h.sub k
  have cc2 : Cc (Spn (Rows bs)) (fun x => Spn (Rows m12) x ∧ Spn (Rows bs) x) N2 := by
    rw [show (fun x => Spn (Rows m12) x ∧ Spn (Rows bs) x) = Spn (Rows both) from funext fun x => propext (eBo x).symm]
    exact c2
  have eN := Cc.eq c1 cc2 iso
  subst eN
  walk_at "wp"
  simp
end Lk16

namespace Lk16
open PySem PySem.Spec PyProof.Rows L2 Mir
def ddef (x : Str) (st : Stmt) : He.DefD := ⟨(x, none), x, x, defArgs st, defBody st, defScope st, [], []⟩
def fn : List He.DefD := [ddef "is_integer" st_is_integer, ddef "bezout" st_bezout, ddef "gcd_of" st_gcd_of, ddef "is_form" st_is_form, ddef "dot" st_dot, ddef "scale_form" st_scale_form, ddef "combined" st_combined, ddef "pivot_of" st_pivot_of, ddef "lowered" st_lowered, ddef "add_vector" st_add_vector, ddef "hermite" st_hermite, ddef "is_basis" st_is_basis, ddef "coordinates" st_coordinates, ddef "contains" st_contains, ddef "includes" st_includes, ddef "join_of" st_join_of, ddef "tails_of" st_tails_of, ddef "meet_of" st_meet_of, ddef "split_by" st_split_by, ddef "grain_of" st_grain_of, ddef "restrict" st_restrict, ddef "class_count" st_class_count, ddef "_law_draw" st__law_draw, ddef "_law_common" st__law_common, ddef "_law_plus" st__law_plus, ddef "_law_basis" st__law_basis, ddef "_law_form" st__law_form, ddef "_law_lattices" st__law_lattices, ddef "law" st_law]
def fa : List He.Fa := [.glo "is_integer", .glo "bezout", .glo "gcd_of", .glo "is_form", .glo "dot", .glo "scale_form", .glo "combined", .glo "pivot_of", .glo "lowered", .glo "add_vector", .glo "hermite", .glo "is_basis", .glo "coordinates", .glo "contains", .glo "includes", .glo "join_of", .glo "tails_of", .glo "meet_of", .glo "split_by", .glo "grain_of", .glo "restrict", .glo "class_count", .glo "_law_draw", .glo "_law_common", .glo "_law_plus", .glo "_law_basis", .glo "_law_form", .glo "_law_lattices", .glo "law",
  .free "abs", .free "all", .free "bool", .free "enumerate", .free "int", .free "isinstance", .free "len", .free "list", .free "range", .free "set", .free "sorted", .free "sum", .free "tuple", .free "zip"]
abbrev R : PySem.W.OpenRow := PySem.W.OpenLaw.row PySem.Challenge.rw_hushgrain_k16_whole_lattice_identities
abbrev hk : PySem.W.Hook := hookS 4 fa fn
def ob (s : PySem.W.SharedT) : AlS := obsSG 4 fa fn (HandSHeadRun.getT s)
theorem ob_eq (s : PySem.W.SharedT) : ob s = hk.obs s.abs := obsSG_eq (HandSHeadRun.getT_eq s)
def loose : List PySem.Str := (["HushError", "NotInside", "is_integer", "bezout", "gcd_of", "is_form", "dot", "scale_form", "combined", "pivot_of", "lowered", "add_vector", "hermite", "is_basis", "coordinates", "contains", "includes", "join_of", "tails_of", "meet_of", "split_by", "grain_of", "restrict", "class_count", "_law_draw", "_law_common", "_law_plus", "_law_basis", "_law_form", "_law_lattices"] : List PySem.Str)
theorem run (w : World) : HandSHeadRun.RunEq R (PySem.W.view R.prog [35]) hk ob 3000 loose w := by
  intro os
  kernel_rfl
theorem top {P : Program} {K : PySem.W.Frag} {h : Heap} {mg : Str → Option Value} (X : K.In h) (G : h.Ns mainGlobals mg) (hP : P.given.tree = none) (c : SaysS fa fn K) : Top P K mg where
  seer := seerB_ok hP c.2
  z_abs := He.free_ok X G (c.1.fact 29 (f := .free "abs") rfl)
  z_all := He.free_ok X G (c.1.fact 30 (f := .free "all") rfl)
  z_bool := He.free_ok X G (c.1.fact 31 (f := .free "bool") rfl)
  z_enumerate := He.free_ok X G (c.1.fact 32 (f := .free "enumerate") rfl)
  z_int := He.free_ok X G (c.1.fact 33 (f := .free "int") rfl)
  z_isinstance := He.free_ok X G (c.1.fact 34 (f := .free "isinstance") rfl)
  z_len := He.free_ok X G (c.1.fact 35 (f := .free "len") rfl)
  z_list := He.free_ok X G (c.1.fact 36 (f := .free "list") rfl)
  z_range := He.free_ok X G (c.1.fact 37 (f := .free "range") rfl)
  z_set := He.free_ok X G (c.1.fact 38 (f := .free "set") rfl)
  z_sorted := He.free_ok X G (c.1.fact 39 (f := .free "sorted") rfl)
  z_sum := He.free_ok X G (c.1.fact 40 (f := .free "sum") rfl)
  z_tuple := He.free_ok X G (c.1.fact 41 (f := .free "tuple") rfl)
  z_zip := He.free_ok X G (c.1.fact 42 (f := .free "zip") rfl)
  d_is_integer := df_mk (c.1.def_ 0 rfl) (He.glo_ok X G (c.1.fact 0 (f := .glo "is_integer") rfl)) fun _ _ _ _ _ _ us hl => match us, hl with | [_], _ => rfl
  d_bezout := df_mk (c.1.def_ 1 rfl) (He.glo_ok X G (c.1.fact 1 (f := .glo "bezout") rfl)) fun _ _ _ _ _ _ us hl => match us, hl with | [_, _], _ => rfl
  d_gcd_of := df_mk (c.1.def_ 2 rfl) (He.glo_ok X G (c.1.fact 2 (f := .glo "gcd_of") rfl)) fun _ _ _ _ _ _ us hl => match us, hl with | [_], _ => rfl
  d_is_form := df_mk (c.1.def_ 3 rfl) (He.glo_ok X G (c.1.fact 3 (f := .glo "is_form") rfl)) fun _ _ _ _ _ _ us hl => match us, hl with | [_, _], _ => rfl
  d_dot := df_mk (c.1.def_ 4 rfl) (He.glo_ok X G (c.1.fact 4 (f := .glo "dot") rfl)) fun _ _ _ _ _ _ us hl => match us, hl with | [_, _], _ => rfl
  d_scale_form := df_mk (c.1.def_ 5 rfl) (He.glo_ok X G (c.1.fact 5 (f := .glo "scale_form") rfl)) fun _ _ _ _ _ _ us hl => match us, hl with | [_, _], _ => rfl
  d_combined := df_mk (c.1.def_ 6 rfl) (He.glo_ok X G (c.1.fact 6 (f := .glo "combined") rfl)) fun _ _ _ _ _ _ us hl => match us, hl with | [_, _, _, _], _ => rfl
  d_pivot_of := df_mk (c.1.def_ 7 rfl) (He.glo_ok X G (c.1.fact 7 (f := .glo "pivot_of") rfl)) fun _ _ _ _ _ _ us hl => match us, hl with | [_], _ => rfl
  d_lowered := df_mk (c.1.def_ 8 rfl) (He.glo_ok X G (c.1.fact 8 (f := .glo "lowered") rfl)) fun _ _ _ _ _ _ us hl => match us, hl with | [_, _, _], _ => rfl
  d_add_vector := df_mk (c.1.def_ 9 rfl) (He.glo_ok X G (c.1.fact 9 (f := .glo "add_vector") rfl)) fun _ _ _ _ _ _ us hl => match us, hl with | [_, _], _ => rfl
  d_hermite := df_mk (c.1.def_ 10 rfl) (He.glo_ok X G (c.1.fact 10 (f := .glo "hermite") rfl)) fun _ _ _ _ _ _ us hl => match us, hl with | [_, _], _ => rfl
  d_is_basis := df_mk (c.1.def_ 11 rfl) (He.glo_ok X G (c.1.fact 11 (f := .glo "is_basis") rfl)) fun _ _ _ _ _ _ us hl => match us, hl with | [_, _], _ => rfl
  d_coordinates := df_mk (c.1.def_ 12 rfl) (He.glo_ok X G (c.1.fact 12 (f := .glo "coordinates") rfl)) fun _ _ _ _ _ _ us hl => match us, hl with | [_, _], _ => rfl
  d_contains := df_mk (c.1.def_ 13 rfl) (He.glo_ok X G (c.1.fact 13 (f := .glo "contains") rfl)) fun _ _ _ _ _ _ us hl => match us, hl with | [_, _], _ => rfl
  d_includes := df_mk (c.1.def_ 14 rfl) (He.glo_ok X G (c.1.fact 14 (f := .glo "includes") rfl)) fun _ _ _ _ _ _ us hl => match us, hl with | [_, _], _ => rfl
  d_join_of := df_mk (c.1.def_ 15 rfl) (He.glo_ok X G (c.1.fact 15 (f := .glo "join_of") rfl)) fun _ _ _ _ _ _ us hl => match us, hl with | [_, _, _], _ => rfl
  d_tails_of := df_mk (c.1.def_ 16 rfl) (He.glo_ok X G (c.1.fact 16 (f := .glo "tails_of") rfl)) fun _ _ _ _ _ _ us hl => match us, hl with | [_, _, _], _ => rfl
  d_meet_of := df_mk (c.1.def_ 17 rfl) (He.glo_ok X G (c.1.fact 17 (f := .glo "meet_of") rfl)) fun _ _ _ _ _ _ us hl => match us, hl with | [_, _, _], _ => rfl
  d_split_by := df_mk (c.1.def_ 18 rfl) (He.glo_ok X G (c.1.fact 18 (f := .glo "split_by") rfl)) fun _ _ _ _ _ _ us hl => match us, hl with | [_, _], _ => rfl
  d_grain_of := df_mk (c.1.def_ 19 rfl) (He.glo_ok X G (c.1.fact 19 (f := .glo "grain_of") rfl)) fun _ _ _ _ _ _ us hl => match us, hl with | [_, _], _ => rfl
  d_restrict := df_mk (c.1.def_ 20 rfl) (He.glo_ok X G (c.1.fact 20 (f := .glo "restrict") rfl)) fun _ _ _ _ _ _ us hl => match us, hl with | [_, _, _], _ => rfl
  d_class_count := df_mk (c.1.def_ 21 rfl) (He.glo_ok X G (c.1.fact 21 (f := .glo "class_count") rfl)) fun _ _ _ _ _ _ us hl => match us, hl with | [_, _], _ => rfl
  d__law_draw := df_mk (c.1.def_ 22 rfl) (He.glo_ok X G (c.1.fact 22 (f := .glo "_law_draw") rfl)) fun _ _ _ _ _ _ us hl => match us, hl with | [_, _], _ => rfl
  d__law_common := df_mk (c.1.def_ 23 rfl) (He.glo_ok X G (c.1.fact 23 (f := .glo "_law_common") rfl)) fun _ _ _ _ _ _ us hl => match us, hl with | [_, _], _ => rfl
  d__law_plus := df_mk (c.1.def_ 24 rfl) (He.glo_ok X G (c.1.fact 24 (f := .glo "_law_plus") rfl)) fun _ _ _ _ _ _ us hl => match us, hl with | [_, _, _], _ => rfl
  d__law_basis := df_mk (c.1.def_ 25 rfl) (He.glo_ok X G (c.1.fact 25 (f := .glo "_law_basis") rfl)) fun _ _ _ _ _ _ us hl => match us, hl with | [_, _], _ => rfl
  d__law_form := df_mk (c.1.def_ 26 rfl) (He.glo_ok X G (c.1.fact 26 (f := .glo "_law_form") rfl)) fun _ _ _ _ _ _ us hl => match us, hl with | [_, _], _ => rfl
  d__law_lattices := df_mk (c.1.def_ 27 rfl) (He.glo_ok X G (c.1.fact 27 (f := .glo "_law_lattices") rfl)) fun _ _ _ _ _ _ us hl => match us, hl with | [_, _], _ => rfl
  d_law := df_mk (c.1.def_ 28 rfl) (He.glo_ok X G (c.1.fact 28 (f := .glo "law") rfl)) fun _ _ _ _ _ _ us hl => match us, hl with | [_], _ => rfl
theorem law_ok {P : Program} {w : World} {K : PySem.W.Frag} {mg : Str → Option Value} (T : Top P K mg) {fa : Addr} (hfa : mg ("law" : Str) = some (.ref fa)) :
    ∃ fd : FuncData, (∀ (s : Shared) (v : Value), BindsTo s fd ⟨[v], []⟩ [("script", v)]) ∧ ∀ base : Heap, FnG P w K mg base CX0 39 fa fd ["script"] (fun vs H Q _ => spM ⟨K, fun _ => 0⟩ 1 m_law vs H Q E0) := by
  obtain ⟨f, fd, F, hm, hb⟩ := T.d_law
  have e := hfa.symm.trans hm
  cases e
  refine ⟨fd, fun s v => ?_, fun base => fn_calmG (sp := spM ⟨K, fun _ => 0⟩ 1 m_law) (okL_law T F)⟩
  obtain ⟨_, _, _, _, _, _, _, _, _, rfl, _, _⟩ := F.ex
  exact .of_eq rfl
end Lk16

open PySem PySem.W PySem.Calls PyProof.Rows
theorem PySem.Challenge.cw_hushgrain_k16_whole_lattice_identities_holds : PySem.Challenge.rw_hushgrain_k16_whole_lattice_identities.Holds := by
  w_on; o_law
  refine HandSHeadRun.head_any (r := OpenLaw.row PySem.Challenge.rw_hushgrain_k16_whole_lattice_identities) (q := view (OpenLaw.row PySem.Challenge.rw_hushgrain_k16_whole_lattice_identities).prog [35]) (H := Lk16.hk) (ob := Lk16.ob) (M := 3000) (loose := Lk16.loose) (d := HandSHeadRun.topDef (OpenLaw.row PySem.Challenge.rw_hushgrain_k16_whole_lattice_identities).prog 35) (kwd := []) Lk16.ob_eq
    (by kernel_rfl) (fun s => by kernel_rfl) Lk16.run (by kernel_rfl) (by kernel_rfl) (by kernel_rfl) (by rfl) (by first | assumption | decide +kernel) (by decide +kernel) ⟨rfl, rfl, rfl, rfl, rfl, by decide +kernel⟩ ?hw ?hc
  case hw => w_witness2
  case hc =>
    refine Mir.walkG (l := PySem.Challenge.rw_hushgrain_k16_whole_lattice_identities) (n := 63) (k := 39) (x := "script") (CX := L2.CX0) rfl (by decide) (by kernel_rfl) ⟨rfl, by decide, by decide⟩ ?F (fun _ _ _ _ z => z)
    intro w mg fa h Y G hmg0
    obtain ⟨K, KX, c⟩ := Y
    have hmg : mg ("law" : PySem.Str) = some (.ref fa) := by
      have e : (HandSHeadRun.topDef (OpenLaw.row PySem.Challenge.rw_hushgrain_k16_whole_lattice_identities).prog 35).name = ("law" : PySem.Str) := by kernel_rfl
      rw [← e]
      exact hmg0
    obtain ⟨fd, hb, hF⟩ := Lk16.law_ok (P := (PySem.Challenge.rw_hushgrain_k16_whole_lattice_identities).prog) (w := w) (Lk16.top KX G (by kernel_rfl) c) hmg
    exact ⟨K, fd, fun vs H Q _ => Mir.spM ⟨K, fun _ => 0⟩ 1 Lk16.m_law vs H Q L2.E0, KX, hb, fun H a ns hl _ hS => Mir.law_sp (C := ⟨K, fun _ => 0⟩) hS (Lk16.law_true ns), fun base _ _ => hF base⟩
