import PyProof.Rows.All
import Wide.All
import OpenK.AllK
import Wide.FinOn
import HandS.ForMost
import HandS.Wide
import HandS.TupAny
import HandS.Style
import HandS.IsInst
import HandS.SortInts
import HandS.Codes
import HandS.Zip
import HandS.ForExc
import HandS.More
import KE.GoesNew
import KE.GoesEnum
import HandS.TupMul
import PyProof.Rows.SetFrom
import KE.KStateDown
import HandS.Defaults
import HandS.Head0
import HandS.Head1
import HandS.Head2
import HandS.HeadEnd
import HandS.HeadHook1
import HandS.HeadHook2
import PySem.Challenge.RW_hushgrain_k05_bases_of_any_object
set_option Elab.async false
set_option linter.all false
set_option maxRecDepth 100000
set_option maxHeartbeats 0
/-! The mirror layer: data values, the store, the monad, the relation to the abstract heap, readings. -/
namespace Mir
open PySem PySem.Spec PyProof.Rows L2

/-- data: what a Python value is, lists that are never changed being values -/
inductive D where
  | non | bl (b : Bool) | int (i : Int) | str (x : Str) | tup (xs : List D) | lst (xs : List D) | obj (n : Nat)
  /-- the script itself -/
  | scr (ns : List Int)
  deriving Inhabited
/-- objects that change -/
inductive O where
  | lst (xs : List D)
  | dic (kvs : List (Key × D))
  | ins (c : Nat) (fs : List (Str × D))
abbrev Sto := List O
/-- an exception of an own class: its number, its fields -/
structure Exn where
  c : Nat
  fs : List (Str × D)
inductive Res (α : Type) where
  | ok (a : α) (st : Sto) | exc (e : Exn) (st : Sto) | bad
def M (α : Type) : Type := Sto → Res α
def Res.andThen {α β : Type} (r : Res α) (f : α → M β) : Res β := match r with
  | .ok a st => f a st
  | .exc e st => .exc e st
  | .bad => .bad
instance : Monad M where
  pure a := fun st => .ok a st
  bind m f := fun st => (m st).andThen f
def bad {α : Type} : M α := fun _ => .bad
theorem bind_def {α β : Type} (m : M α) (f : α → M β) (st : Sto) : (m >>= f) st = (m st).andThen f := rfl
theorem pure_def {α : Type} (a : α) (st : Sto) : (pure a : M α) st = .ok a st := rfl
abbrev Env := List (Option D)

/-! ### the relation -/
def SqI (ι : List Addr) (H : Hp) (a : Addr) (xs : List V) : Prop := Rd H a (.lst xs) ∧ a ∉ ι
def SqJ (K : PySem.W.Frag) (ι : List Addr) (H : Hp) (a : Addr) (xs : List V) : Prop :=
  (Rd H a (.tup xs) ∧ a ∉ ι) ∨
    ∃ (o : Obj) (its : Array Value) (n : Nat), K.lookup a = some o ∧ o.cls = .type "tuple" ∧ o.data = .seq its n ∧ its.size ≤ sizeLine ∧ Vals xs its.toList
/-- the script's list: it may stand in the written part -/
def SqW (K : PySem.W.Frag) (ι : List Addr) (H : Hp) (a : Addr) (xs : List V) : Prop :=
  (Rd H a (.lst xs) ∧ a ∉ ι) ∨
    ∃ (o : Obj) (its : Array Value) (n : Nat), K.lookup a = some o ∧ o.cls = .type "list" ∧ o.dict = none ∧ o.data = .seq its n ∧ its.size ≤ sizeLine ∧ Vals xs its.toList
theorem SqW.l {K : PySem.W.Frag} {ι : List Addr} {H : Hp} {a : Addr} {xs : List V} (h : SqW K ι H a xs) : SqL K H a xs := h.imp (fun z => z.1) id
theorem SqI.l {K : PySem.W.Frag} {ι : List Addr} {H : Hp} {a : Addr} {xs : List V} (h : SqI ι H a xs) : SqL K H a xs := .inl h.1
theorem SqJ.t {K : PySem.W.Frag} {ι : List Addr} {H : Hp} {a : Addr} {xs : List V} (h : SqJ K ι H a xs) : SqT K H a xs := h.imp (fun z => z.1) id

mutual
inductive Rp (K : PySem.W.Frag) (ι : List Addr) (H : Hp) : V → D → Prop
  | non : Rp K ι H .non .non
  | bl (b : Bool) : Rp K ι H (.bl b) (.bl b)
  | int (i : Int) : Rp K ι H (.int i) (.int i)
  | str (x : Str) : Rp K ι H (.str x) (.str x)
  | tup {a : Addr} {xs : List V} {ds : List D} : SqJ K ι H a xs → Rps K ι H xs ds → Rp K ι H (.ref a) (.tup ds)
  | lst {a : Addr} {xs : List V} {ds : List D} : SqI ι H a xs → Rps K ι H xs ds → Rp K ι H (.ref a) (.lst ds)
  | obj {a : Addr} {n : Nat} : ι[n]? = some a → Rp K ι H (.ref a) (.obj n)
  | scr {a : Addr} {ns : List Int} : SqW K ι H a (ns.map V.int) → Rp K ι H (.ref a) (.scr ns)
inductive Rps (K : PySem.W.Frag) (ι : List Addr) (H : Hp) : List V → List D → Prop
  | nil : Rps K ι H [] []
  | cons {v : V} {vs : List V} {d : D} {ds : List D} : Rp K ι H v d → Rps K ι H vs ds → Rps K ι H (v :: vs) (d :: ds)
end

/-- from (ι, H) to (ι', H'): objects are added, only the listed ones change -/
structure Stp (ι : List Addr) (H : Hp) (ι' : List Addr) (H' : Hp) : Prop where
  pre : ∃ more, ι' = ι ++ more
  new : ∀ a ∈ ι', a ∉ ι → H a = none
  keep : ∀ a o, H a = some o → a ∉ ι → H' a = some o
theorem Stp.refl (ι : List Addr) (H : Hp) : Stp ι H ι H := ⟨⟨[], by simp⟩, fun a h n => absurd h n, fun _ _ h _ => h⟩
theorem Stp.sub {ι ι' : List Addr} {H H' : Hp} (s : Stp ι H ι' H') {a : Addr} (h : a ∈ ι) : a ∈ ι' := by
  obtain ⟨m, e⟩ := s.pre
  rw [e]
  exact List.mem_append_left _ h
theorem Stp.trans {ι ι1 ι2 : List Addr} {H H1 H2 : Hp} (s : Stp ι H ι1 H1) (t : Stp ι1 H1 ι2 H2) : Stp ι H ι2 H2 where
  pre := by
    obtain ⟨m, e⟩ := s.pre
    obtain ⟨n, f⟩ := t.pre
    exact ⟨m ++ n, by rw [f, e, List.append_assoc]⟩
  new := fun a h n => by
    by_cases h1 : a ∈ ι1
    · exact s.new a h1 n
    · have e := t.new a h h1
      cases q : H a with
      | none => rfl
      | some o =>
        have := s.keep a o q n
        rw [e] at this
        cases this
  keep := fun a o q n => by
    refine t.keep a o (s.keep a o q n) fun h1 => ?_
    have := s.new a h1 n
    rw [q] at this
    cases this
theorem Stp.out {ι ι' : List Addr} {H H' : Hp} (s : Stp ι H ι' H') {a : Addr} {o : HO} (q : H a = some o) (n : a ∉ ι) : a ∉ ι' := fun h => by
  have := s.new a h n
  rw [q] at this
  cases this
theorem Stp.get {ι ι' : List Addr} {H H' : Hp} (s : Stp ι H ι' H') {n : Nat} {a : Addr} (q : ι[n]? = some a) : ι'[n]? = some a := by
  obtain ⟨m, e⟩ := s.pre
  rw [e, List.getElem?_append_left (List.getElem?_eq_some_iff.mp q).1]
  exact q
theorem SqI.step {ι ι' : List Addr} {H H' : Hp} {a : Addr} {xs : List V} (s : Stp ι H ι' H') (h : SqI ι H a xs) : SqI ι' H' a xs := by
  rcases h with ⟨h | ⟨o, h⟩, n⟩
  · exact ⟨.inl (s.keep _ _ h n), s.out h n⟩
  · exact ⟨.inr ⟨o, s.keep _ _ h n⟩, s.out h n⟩
theorem SqJ.step {K : PySem.W.Frag} {ι ι' : List Addr} {H H' : Hp} {a : Addr} {xs : List V} (s : Stp ι H ι' H') (h : SqJ K ι H a xs) : SqJ K ι' H' a xs := by
  rcases h with ⟨h | ⟨o, h⟩, n⟩ | h
  · exact .inl ⟨.inl (s.keep _ _ h n), s.out h n⟩
  · exact .inl ⟨.inr ⟨o, s.keep _ _ h n⟩, s.out h n⟩
  · exact .inr h
theorem SqW.step {K : PySem.W.Frag} {ι ι' : List Addr} {H H' : Hp} {a : Addr} {xs : List V} (s : Stp ι H ι' H') (h : SqW K ι H a xs) : SqW K ι' H' a xs := by
  rcases h with ⟨h | ⟨o, h⟩, n⟩ | h
  · exact .inl ⟨.inl (s.keep _ _ h n), s.out h n⟩
  · exact .inl ⟨.inr ⟨o, s.keep _ _ h n⟩, s.out h n⟩
  · exact .inr h
mutual
theorem Rp.step {K : PySem.W.Frag} {ι ι' : List Addr} {H H' : Hp} (s : Stp ι H ι' H') : ∀ {v : V} {d : D}, Rp K ι H v d → Rp K ι' H' v d
  | _, _, .non => .non
  | _, _, .bl b => .bl b
  | _, _, .int i => .int i
  | _, _, .str x => .str x
  | _, _, .tup h r => .tup (h.step s) (Rps.step s r)
  | _, _, .lst h r => .lst (h.step s) (Rps.step s r)
  | _, _, .obj h => .obj (s.get h)
  | _, _, .scr h => .scr (h.step s)
theorem Rps.step {K : PySem.W.Frag} {ι ι' : List Addr} {H H' : Hp} (s : Stp ι H ι' H') : ∀ {vs : List V} {ds : List D}, Rps K ι H vs ds → Rps K ι' H' vs ds
  | _, _, .nil => .nil
  | _, _, .cons r t => .cons (Rp.step s r) (Rps.step s t)
end
theorem Rps.length {K : PySem.W.Frag} {ι : List Addr} {H : Hp} : ∀ {vs : List V} {ds : List D}, Rps K ι H vs ds → vs.length = ds.length
  | _, _, .nil => rfl
  | _, _, .cons _ t => congrArg (· + 1) (Rps.length t)
theorem Rps.get {K : PySem.W.Frag} {ι : List Addr} {H : Hp} : ∀ {vs : List V} {ds : List D} {i : Nat} {d : D}, Rps K ι H vs ds → ds[i]? = some d → ∃ v, vs[i]? = some v ∧ Rp K ι H v d
  | _, _, _, _, .nil, e => by simp at e
  | _, _, 0, _, .cons r _, e => by simp at e; subst e; exact ⟨_, rfl, r⟩
  | _, _, i + 1, d, .cons _ t, e => by
    obtain ⟨v, h1, h2⟩ := Rps.get (i := i) (d := d) t (by simpa using e)
    exact ⟨v, by simpa using h1, h2⟩
theorem Rps.append {K : PySem.W.Frag} {ι : List Addr} {H : Hp} : ∀ {vs ws : List V} {ds es : List D}, Rps K ι H vs ds → Rps K ι H ws es → Rps K ι H (vs ++ ws) (ds ++ es)
  | _, _, _, _, .nil, s => s
  | _, _, _, _, .cons r t, s => .cons r (Rps.append t s)
theorem Rps.set {K : PySem.W.Frag} {ι : List Addr} {H : Hp} {v : V} {d : D} (r : Rp K ι H v d) : ∀ {vs : List V} {ds : List D} (i : Nat), Rps K ι H vs ds → Rps K ι H (vs.set i v) (ds.set i d)
  | _, _, _, .nil => .nil
  | _, _, 0, .cons _ t => .cons r t
  | _, _, i + 1, .cons q t => .cons q (Rps.set r i t)
theorem Rps.take {K : PySem.W.Frag} {ι : List Addr} {H : Hp} : ∀ {vs : List V} {ds : List D} (n : Nat), Rps K ι H vs ds → Rps K ι H (vs.take n) (ds.take n)
  | _, _, 0, _ => .nil
  | _, _, _ + 1, .nil => .nil
  | _, _, n + 1, .cons r t => .cons r (Rps.take n t)
theorem Rps.drop {K : PySem.W.Frag} {ι : List Addr} {H : Hp} : ∀ {vs : List V} {ds : List D} (n : Nat), Rps K ι H vs ds → Rps K ι H (vs.drop n) (ds.drop n)
  | _, _, 0, r => r
  | _, _, _ + 1, .nil => .nil
  | _, _, n + 1, .cons _ t => Rps.drop n t
theorem Rps.erase {K : PySem.W.Frag} {ι : List Addr} {H : Hp} : ∀ {vs : List V} {ds : List D} (n : Nat), Rps K ι H vs ds → Rps K ι H (vs.eraseIdx n) (ds.eraseIdx n)
  | _, _, _, .nil => .nil
  | _, _, 0, .cons r t => t
  | _, _, n + 1, .cons r t => .cons r (Rps.erase n t)
theorem Rps.insert {K : PySem.W.Frag} {ι : List Addr} {H : Hp} {v : V} {d : D} (r : Rp K ι H v d) {vs : List V} {ds : List D} (n : Nat) (h : Rps K ι H vs ds) : Rps K ι H (vs.take n ++ v :: vs.drop n) (ds.take n ++ d :: ds.drop n) :=
  (h.take n).append (.cons r (h.drop n))
theorem Rps.reverse {K : PySem.W.Frag} {ι : List Addr} {H : Hp} : ∀ {vs : List V} {ds : List D}, Rps K ι H vs ds → Rps K ι H vs.reverse ds.reverse
  | _, _, .nil => .nil
  | _, _, .cons r t => by
    rw [List.reverse_cons, List.reverse_cons]
    exact (Rps.reverse t).append (.cons r .nil)
theorem Rps.ints {K : PySem.W.Frag} {ι : List Addr} {H : Hp} : ∀ {vs : List V} {ns : List Int}, Rps K ι H vs (ns.map D.int) → vs = ns.map V.int
  | _, [], .nil => rfl
  | _, _ :: _, .cons (.int _) t => by rw [Rps.ints t]; rfl
theorem Rps.of_ints {K : PySem.W.Frag} {ι : List Addr} {H : Hp} : ∀ (ns : List Int), Rps K ι H (ns.map V.int) (ns.map D.int)
  | [] => .nil
  | n :: ns => .cons (.int n) (Rps.of_ints ns)
theorem Rps.bls {K : PySem.W.Frag} {ι : List Addr} {H : Hp} : ∀ {vs : List V} {ns : List Bool}, Rps K ι H vs (ns.map D.bl) → vs = ns.map V.bl
  | _, [], .nil => rfl
  | _, _ :: _, .cons (.bl _) t => by rw [Rps.bls t]; rfl

/-- key pairs -/
def Rkv (K : PySem.W.Frag) (ι : List Addr) (H : Hp) : List (Key × V) → List (Key × D) → Prop := Paired fun p q => p.1 = q.1 ∧ Rp K ι H p.2 q.2
def Rfs (K : PySem.W.Frag) (ι : List Addr) (H : Hp) : List (Str × V) → List (Str × D) → Prop := Paired fun p q => p.1 = q.1 ∧ Rp K ι H p.2 q.2
theorem Rkv.step {K : PySem.W.Frag} {ι ι' : List Addr} {H H' : Hp} (s : Stp ι H ι' H') {a b} (h : Rkv K ι H a b) : Rkv K ι' H' a b := Paired.mapP h fun _ _ z => ⟨z.1, z.2.step s⟩
theorem Rfs.step {K : PySem.W.Frag} {ι ι' : List Addr} {H H' : Hp} (s : Stp ι H ι' H') {a b} (h : Rfs K ι H a b) : Rfs K ι' H' a b := Paired.mapP h fun _ _ z => ⟨z.1, z.2.step s⟩

/-- what hangs on the program alone: the written part, the classes by number -/
structure Ctx where
  K : PySem.W.Frag
  cls : Nat → Addr

/-- a store object stands at an address -/
def Ob (C : Ctx) (ι : List Addr) (H : Hp) (a : Addr) : O → Prop
  | .lst ds => ∃ xs, H a = some (.lst xs) ∧ Rps C.K ι H xs ds
  | .dic kvs => ∃ ps, H a = some (.dK ps) ∧ Rkv C.K ι H ps kvs
  | .ins c fs => ∃ dx ps, H a = some (.ins (C.cls c) dx ps) ∧ Rfs C.K ι H ps fs ∧ H dx = some (.own a) ∧ dx ∉ ι
structure Rl (C : Ctx) (ι : List Addr) (H : Hp) (st : Sto) : Prop where
  len : ι.length = st.length
  nd : ι.Nodup
  at' : ∀ (n : Nat) (o : O) (a : Addr), st[n]? = some o → ι[n]? = some a → Ob C ι H a o
theorem Ob.some {C : Ctx} {ι : List Addr} {H : Hp} {a : Addr} {o : O} (h : Ob C ι H a o) : ∃ u, H a = some u := by
  cases o with
  | lst => obtain ⟨_, e, _⟩ := h; exact ⟨_, e⟩
  | dic => obtain ⟨_, e, _⟩ := h; exact ⟨_, e⟩
  | ins => obtain ⟨_, _, e, _⟩ := h; exact ⟨_, e⟩
theorem Rl.get {C : Ctx} {ι : List Addr} {H : Hp} {st : Sto} (R : Rl C ι H st) {n : Nat} {o : O} (h : st[n]? = some o) : ∃ a, ι[n]? = some a ∧ Ob C ι H a o := by
  have hn : n < ι.length := by rw [R.len]; exact (List.getElem?_eq_some_iff.mp h).1
  exact ⟨ι[n], List.getElem?_eq_getElem hn, R.at' n o _ h (List.getElem?_eq_getElem hn)⟩
theorem Rl.mem {C : Ctx} {ι : List Addr} {H : Hp} {st : Sto} (R : Rl C ι H st) {a : Addr} (h : a ∈ ι) : ∃ u, H a = some u := by
  obtain ⟨n, hn, e⟩ := List.getElem_of_mem h
  have hn' : n < st.length := by rw [← R.len]; exact hn
  exact (R.at' n st[n] a (List.getElem?_eq_getElem hn') (by rw [List.getElem?_eq_getElem hn, e])).some
theorem Rl.fresh {C : Ctx} {ι : List Addr} {H : Hp} {st : Sto} (R : Rl C ι H st) {p : Addr} (h : H p = none) : p ∉ ι := fun z => by
  obtain ⟨u, e⟩ := R.mem z
  rw [h] at e
  cases e
theorem Ob.step {C : Ctx} {ι ι' : List Addr} {H H' : Hp} (s : Stp ι H ι' H') {a : Addr} {o : O} (e : H' a = H a) (h : Ob C ι H a o) : Ob C ι' H' a o := by
  cases o with
  | lst ds => obtain ⟨xs, e1, r⟩ := h; exact ⟨xs, e.trans e1, r.step s⟩
  | dic ds => obtain ⟨xs, e1, r⟩ := h; exact ⟨xs, e.trans e1, r.step s⟩
  | ins c fs => obtain ⟨dx, ps, e1, r, eo, n⟩ := h; exact ⟨dx, ps, e.trans e1, r.step s, s.keep _ _ eo n, s.out eo n⟩
section
variable {C : Ctx} {ι ι' : List Addr} {H H' : Hp} {st : Sto} {p a : Addr} {o : HO} {n : Nat}
/-- a new object that is no store object -/
theorem Stp.new1 (h : H p = none) : Stp ι H ι (upd H p o) := ⟨⟨[], by simp⟩, fun a h n => absurd h n, fun b u e _ => by rw [upd_ne (ne_of_none e h)]; exact e⟩
theorem Stp.put (h : a ∈ ι) : Stp ι H ι (upd H a o) := ⟨⟨[], by simp⟩, fun a h n => absurd h n, fun b u e n => by rw [upd_ne (fun z => n (by rw [z]; exact h))]; exact e⟩
theorem Stp.alloc (h : H p = none) : Stp ι H (ι ++ [p]) (upd H p o) := ⟨⟨[p], rfl⟩, fun a ha n => by
    rcases List.mem_append.mp ha with z | z
    · exact absurd z n
    · have e : a = p := by simpa using z
      rw [e]; exact h, fun b u e _ => by rw [upd_ne (ne_of_none e h)]; exact e⟩
theorem Rl.keep (R : Rl C ι H st) (s : Stp ι H ι H') (k : ∀ a ∈ ι, H' a = H a) : Rl C ι H' st :=
  ⟨R.len, R.nd, fun n o a h1 h2 => (R.at' n o a h1 h2).step s (k a (List.mem_of_getElem? h2))⟩
theorem Rl.new1 (R : Rl C ι H st) (h : H p = none) : Rl C ι (upd H p o) st :=
  R.keep (Stp.new1 h) fun a ha => by
    obtain ⟨u, e⟩ := R.mem ha
    exact upd_ne (ne_of_none e h)
theorem Rl.alloc (R : Rl C ι H st) (h : H p = none) {ob : O} (hob : ∀ H', Stp ι H (ι ++ [p]) H' → H' p = some o → Ob C (ι ++ [p]) H' p ob) : Rl C (ι ++ [p]) (upd H p o) (st ++ [ob]) := by
  have hp := R.fresh h
  refine ⟨by rw [List.length_append, List.length_append, R.len]; rfl, ?_, fun n u a h1 h2 => ?_⟩
  · rw [List.nodup_append]
    exact ⟨R.nd, by simp, fun x hx y hy => by
      have e : y = p := by simpa using hy
      rw [e]; exact fun z => hp (z ▸ hx)⟩
  · by_cases hn : n < st.length
    · rw [List.getElem?_append_left hn] at h1
      rw [List.getElem?_append_left (by rw [R.len]; exact hn)] at h2
      have q := R.at' n u a h1 h2
      obtain ⟨w, e⟩ := q.some
      exact q.step (Stp.alloc h) (upd_ne (ne_of_none e h))
    · have l1 : n = st.length := by
        have := (List.getElem?_eq_some_iff.mp h1).1
        rw [List.length_append] at this
        simp at this
        omega
      rw [l1, List.getElem?_append_right (Nat.le_refl _), Nat.sub_self] at h1
      rw [l1, List.getElem?_append_right (by rw [R.len]; exact Nat.le_refl _), R.len, Nat.sub_self] at h2
      have e1 : ob = u := by simpa using h1
      have e2 : p = a := by simpa using h2
      rw [← e1, ← e2]
      exact hob _ (Stp.alloc h) upd_same
theorem Rl.put (R : Rl C ι H st) (hn : ι[n]? = some a) {ob : O} (hob : Stp ι H ι (upd H a o) → Ob C ι (upd H a o) a ob) : Rl C ι (upd H a o) (st.set n ob) := by
  have hm : a ∈ ι := List.mem_of_getElem? hn
  refine ⟨by rw [List.length_set]; exact R.len, R.nd, fun m u b h1 h2 => ?_⟩
  by_cases e : n = m
  · subst e
    rw [hn] at h2
    cases h2
    have l : n < st.length := by rw [← R.len]; exact (List.getElem?_eq_some_iff.mp hn).1
    rw [List.getElem?_set_self l] at h1
    cases h1
    exact hob (Stp.put hm)
  · rw [List.getElem?_set_ne e] at h1
    have q := R.at' m u b h1 h2
    refine q.step (Stp.put hm) (upd_ne fun z => ?_)
    subst z
    obtain ⟨l1, e1⟩ := List.getElem?_eq_some_iff.mp hn
    obtain ⟨l2, e2⟩ := List.getElem?_eq_some_iff.mp h2
    exact e ((List.getElem_inj R.nd).mp (e1.trans e2.symm))
end

/-! ### what is wanted of a result -/
/-- an exception object of an own class -/
def XRep (C : Ctx) (ι : List Addr) (H : Hp) (v : Value) (od : Option Addr) (e : Exn) : Prop :=
  v = .ref (C.cls e.c) ∧ ((e.fs = [] ∧ od = none) ∨ ∃ d ps, od = some d ∧ H d = some (.xd ps) ∧ d ∉ ι ∧ Rfs C.K ι H ps e.fs)
def Pst {α β : Type} (C : Ctx) (rel : List Addr → Hp → β → α → Prop) (E : XK) (ι : List Addr) (H : Hp) (Q : β → Hp → Prop) : Res α → Prop
  | .ok a st => ∀ ι' H' b, Stp ι H ι' H' → Rl C ι' H' st → rel ι' H' b a → Q b H'
  | .exc e st => ∀ ι' H' v od, Stp ι H ι' H' → Rl C ι' H' st → XRep C ι' H' v od e → E v od H'
  | .bad => False
section
variable {α β γ δ : Type} {C : Ctx} {rel : List Addr → Hp → β → α → Prop} {rel2 : List Addr → Hp → δ → γ → Prop} {E : XK} {ι ι' : List Addr} {H H' : Hp} {Q : β → Hp → Prop} {Q2 : δ → Hp → Prop} {st : Sto}
theorem Pst.step {r : Res α} (h : Pst C rel E ι H Q r) (s : Stp ι H ι' H') : Pst C rel E ι' H' Q r := by
  cases r with
  | ok a st => exact fun ι2 H2 b t => h ι2 H2 b (s.trans t)
  | exc e st => exact fun ι2 H2 v od t => h ι2 H2 v od (s.trans t)
  | bad => exact h
theorem Pst.mono {r : Res α} {Q' : β → Hp → Prop} (h : Pst C rel E ι H Q r) (m : ∀ b H', Q b H' → Q' b H') : Pst C rel E ι H Q' r := by
  cases r with
  | ok a st => exact fun ι2 H2 b t u v => m _ _ (h ι2 H2 b t u v)
  | exc e st => exact h
  | bad => exact h
/-- what is known between two parts -/
def Mid (C : Ctx) (rel : List Addr → Hp → β → α → Prop) (rel2 : List Addr → Hp → δ → γ → Prop) (E : XK) (ι : List Addr) (H : Hp) (Q2 : δ → Hp → Prop) (f : α → M γ) : β → Hp → Prop := fun b H1 =>
  ∃ a ι1 st1, Stp ι H ι1 H1 ∧ Rl C ι1 H1 st1 ∧ rel ι1 H1 b a ∧ Pst C rel2 E ι1 H1 Q2 (f a st1)
theorem Pst.bind {m : M α} {f : α → M γ} (h : Pst C rel2 E ι H Q2 ((m >>= f) st)) : Pst C rel E ι H (Mid C rel rel2 E ι H Q2 f) (m st) := by
  rw [bind_def] at h
  cases e : m st with
  | ok a st1 =>
    rw [e] at h
    exact fun ι1 H1 b s R r => ⟨a, ι1, st1, s, R, r, Pst.step (show Pst C rel2 E ι H Q2 (f a st1) from h) s⟩
  | exc x st1 =>
    rw [e] at h
    exact h
  | bad =>
    rw [e] at h
    exact h
theorem Pst.pure {a : α} {b : β} (h : Pst C rel E ι H Q (.ok a st)) (R : Rl C ι H st) (r : rel ι H b a) : Q b H := h ι H b (Stp.refl _ _) R r
end

/-! ### locals -/
/-- what is known of the slots -/
structure REnv (K : PySem.W.Frag) (ι : List Addr) (H : Hp) (σ : List (Option V)) (env : List (Option D)) : Prop where
  len : σ.length = env.length
  at' : ∀ (i : Nat) (d : D), env[i]? = some (some d) → ∃ v, σ[i]? = some (some v) ∧ Rp K ι H v d
theorem REnv.step {K : PySem.W.Frag} {ι ι' : List Addr} {H H' : Hp} {σ : L2.St} {env : Env} (s : Stp ι H ι' H') (r : REnv K ι H σ env) : REnv K ι' H' σ env :=
  ⟨r.len, fun i d e => by obtain ⟨v, h1, h2⟩ := r.at' i d e; exact ⟨v, h1, h2.step s⟩⟩
theorem REnv.set {K : PySem.W.Frag} {ι : List Addr} {H : Hp} {σ : L2.St} {env : Env} (r : REnv K ι H σ env) {v : V} {d : D} (i : Nat) (h : Rp K ι H v d) : REnv K ι H (σ.set i (some v)) (env.set i (some d)) :=
  ⟨by rw [List.length_set, List.length_set, r.len], fun j e he => by
    by_cases z : i = j
    · subst z
      have l := (List.getElem?_eq_some_iff.mp he).1
      rw [List.length_set] at l
      rw [List.getElem?_set_self l] at he
      cases he
      exact ⟨v, by rw [List.getElem?_set_self (by rw [r.len]; exact l)], h⟩
    · rw [List.getElem?_set_ne z] at he
      obtain ⟨w, h1, h2⟩ := r.at' j e he
      exact ⟨w, by rw [List.getElem?_set_ne z]; exact h1, h2⟩⟩

/-! ### readings -/
def Rel1 (K : PySem.W.Frag) : List Addr → Hp → V → D → Prop := fun ι H v d => Rp K ι H v d
def RelA (K : PySem.W.Frag) : List Addr → Hp → List V → List D → Prop := fun ι H v d => Rps K ι H v d
def RelB : List Addr → Hp → Bool → Bool → Prop := fun _ _ a b => a = b
def RelI : List Addr → Hp → Option Int → Option Int → Prop := fun _ _ a b => a = b
def rdE (C : Ctx) (E : XK) (m : Env → M D) : TE := fun σ H Q => ∃ env ι st, REnv C.K ι H σ env ∧ Rl C ι H st ∧ Pst C (Rel1 C.K) E ι H Q (m env st)
def rdA (C : Ctx) (E : XK) (m : Env → M (List D)) : TA := fun σ H Q => ∃ env ι st, REnv C.K ι H σ env ∧ Rl C ι H st ∧ Pst C (RelA C.K) E ι H Q (m env st)
def rdT (C : Ctx) (E : XK) (m : Env → M Bool) : TT := fun σ H Q => ∃ env ι st, REnv C.K ι H σ env ∧ Rl C ι H st ∧ Pst C RelB E ι H Q (m env st)
def rdO (C : Ctx) (E : XK) (m : Env → M (Option Int)) : TO := fun σ H Q => ∃ env ι st, REnv C.K ι H σ env ∧ Rl C ι H st ∧ Pst C RelI E ι H Q (m env st)
section
variable {X : Cx}
theorem _root_.L2.PE.mono {e : Expr} {t t' : TE} (h : PE X e t) (m : ∀ σ H Q, t' σ H Q → t σ H Q) : PE X e t' := ⟨fun pins s σ H Q I q => h.run pins s σ H Q I (m σ H Q q)⟩
theorem _root_.L2.PT.mono {e : Expr} {t t' : TT} (h : PT X e t) (m : ∀ σ H Q, t' σ H Q → t σ H Q) : PT X e t' := ⟨fun pins s σ H Q I q => h.run pins s σ H Q I (m σ H Q q)⟩
theorem _root_.L2.PW.mono {e : Expr} {t t' : TT} (h : PW X e t) (m : ∀ σ H Q, t' σ H Q → t σ H Q) : PW X e t' := ⟨fun wh pins s σ H Q I q => h.run wh pins s σ H Q I (m σ H Q q)⟩
theorem _root_.L2.PA.mono {e : List Expr} {t t' : TA} (h : PA X e t) (m : ∀ σ H Q, t' σ H Q → t σ H Q) : PA X e t' := ⟨fun pos pins s σ H Q I q => h.run pos pins s σ H Q I (m σ H Q q)⟩
theorem _root_.L2.PS.mono {e : Stmt} {t t' : TS} (h : PS X e t) (m : ∀ D σ H, t' D σ H → t D σ H) : PS X e t' := ⟨fun pins s σ H D I q => h.run pins s σ H D I (m D σ H q)⟩
theorem _root_.L2.PSs.mono {e : List Stmt} {t t' : TS} (h : PSs X e t) (m : ∀ D σ H, t' D σ H → t D σ H) : PSs X e t' := ⟨fun pins s σ H D I q => h.run pins s σ H D I (m D σ H q)⟩
end

/-! ### names, constants, operations -/
def eVar (i : Nat) : Env → M D := fun env => match env[i]? with | some (some d) => pure d | _ => bad
def eC (d : D) : Env → M D := fun _ => pure d
def eOp (f : D → D → M D) (a b : Env → M D) : Env → M D := fun env => a env >>= fun x => b env >>= fun y => f x y
def eUn (f : D → M D) (a : Env → M D) : Env → M D := fun env => a env >>= fun x => f x
section
variable {X : Cx} {C : Ctx} {E : XK}
theorem w_var (i : Nat) {x : Str} {pos : Pos} (hN : X.N[i]? = some x := by rfl) (hv : Vis X.env.scope x := by first | exact Or.inl rfl | exact Or.inr (Or.inl rfl) | exact Or.inr (Or.inr rfl)) (hd : (x == ("__debug__" : Str)) = false := by decide)
    (hcd : (x == ("__classdict__" : Str)) = false := by decide) : PE X (.Name x pos) (rdE C E (eVar i)) :=
  (pe_var (i := i) hN hv hd hcd).mono fun σ H Q ⟨env, ι, st, re, R, h⟩ => by
    cases e : env[i]? with
    | none => simp only [eVar, e] at h; exact h.elim
    | some o =>
      cases o with
      | none => simp only [eVar, e] at h; exact h.elim
      | some d =>
        simp only [eVar, e] at h
        obtain ⟨v, h1, h2⟩ := re.at' i d e
        exact ⟨v, h1, Pst.pure (rel := Rel1 C.K) h R h2⟩
theorem w_c {e : Expr} {v : V} {d : D} (h : PE X e (tC v)) (r : ∀ ι H, Rp C.K ι H v d) : PE X e (rdE C E (eC d)) :=
  h.mono fun σ H Q ⟨env, ι, st, re, R, h⟩ => Pst.pure (rel := Rel1 C.K) h R (r ι H)
theorem w_int {i j pos} : PE X (.Constant (.int i) j pos) (rdE C E (eC (.int i))) := w_c pe_int fun _ _ => .int i
theorem w_bl {b j pos} : PE X (.Constant (.bool b) j pos) (rdE C E (eC (.bl b))) := w_c pe_bl fun _ _ => .bl b
theorem w_non {j pos} : PE X (.Constant .none j pos) (rdE C E (eC .non)) := w_c pe_non fun _ _ => .non
theorem w_str {x j pos} : PE X (.Constant (.str x) j pos) (rdE C E (eC (.str x))) := w_c pe_str fun _ _ => .str x
/-- a two-place operation on data is one on values -/
def OpD (C : Ctx) (r : R2) (f : D → D → M D) : Prop := ∀ (E : XK) (ι : List Addr) (H : Hp) (st : Sto) (x y : V) (a b : D) (Q : VK), Rl C ι H st → Rp C.K ι H x a → Rp C.K ι H y b → Pst C (Rel1 C.K) E ι H Q (f a b st) → r x y H Q
def UnD (C : Ctx) (r : V → Hp → VK → Prop) (f : D → M D) : Prop := ∀ (E : XK) (ι : List Addr) (H : Hp) (st : Sto) (x : V) (a : D) (Q : VK), Rl C ι H st → Rp C.K ι H x a → Pst C (Rel1 C.K) E ι H Q (f a st) → r x H Q
theorem rd_op {r : R2} {f : D → D → M D} {ma mb : Env → M D} (h : OpD C r f) {σ : L2.St} {H : Hp} {Q : VK} (q : rdE C E (eOp f ma mb) σ H Q) : tOp r (rdE C E ma) (rdE C E mb) σ H Q := by
  obtain ⟨env, ι, st, re, R, q⟩ := q
  refine ⟨env, ι, st, re, R, (Pst.bind (rel := Rel1 C.K) q).mono ?_⟩
  rintro x H1 ⟨a, ι1, st1, s1, R1, r1, q1⟩
  refine ⟨env, ι1, st1, re.step s1, R1, (Pst.bind (rel := Rel1 C.K) q1).mono ?_⟩
  rintro y H2 ⟨b, ι2, st2, s2, R2, r2, q2⟩
  exact h E ι2 H2 st2 x y a b Q R2 (Rp.step s2 r1) r2 q2
theorem w_op {a b : Expr} {op : Operator} {pos : Pos} {r : R2} {f : D → D → M D} {ma mb : Env → M D} (ho : OpR X (binaryOp op) r) (h : OpD C r f) (ha : PE X a (rdE C E ma)) (hb : PE X b (rdE C E mb)) : PE X (.BinOp a op b pos) (rdE C E (eOp f ma mb)) :=
  (pe_op ho ha hb).mono fun _ _ _ => rd_op h
theorem w_un {a : Expr} {op : UnaryOp} {pos : Pos} {r : V → Hp → VK → Prop} {f : D → M D} {ma : Env → M D} (ho : UnR X (unaryOp op) r) (h : UnD C r f) (ha : PE X a (rdE C E ma)) : PE X (.UnaryOp op a pos) (rdE C E (eUn f ma)) :=
  (pe_un ho ha).mono fun σ H Q q => by
    obtain ⟨env, ι, st, re, R, q⟩ := q
    refine ⟨env, ι, st, re, R, (Pst.bind (rel := Rel1 C.K) q).mono ?_⟩
    rintro x H1 ⟨a, ι1, st1, s1, R1, r1, q1⟩
    exact h E ι1 H1 st1 x a Q R1 r1 q1
theorem w_cmp {a b : Expr} {op : CmpOp} {pos : Pos} {r : R2} {f : D → D → M D} {ma mb : Env → M D} (ho : OpR X (compareOp op) r) (h : OpD C r f) (ha : PE X a (rdE C E ma)) (hb : PE X b (rdE C E mb)) (hm : behindInMarks op b = false) :
    PE X (.Compare a [op] [b] pos) (rdE C E (eOp f ma mb)) := (pe_cmpR ho ha hb hm).mono fun _ _ _ => rd_op h
end
end Mir

namespace Mir
open PySem PySem.Spec PyProof.Rows L2

/-! ### items -/
def lstOf (st : Sto) : D → Option (List D)
  | .lst xs => some xs
  | .obj n => match st[n]? with
    | some (.lst xs) => some xs
    | _ => none
  | _ => none
def seqOf (st : Sto) : D → Option (List D)
  | .tup xs => some xs
  | d => lstOf st d
section
variable {C : Ctx} {ι : List Addr} {H : Hp} {st : Sto} {x : V} {d : D} {ds : List D} {n : Nat}
theorem obj_lst (h : lstOf st (.obj n) = some ds) : st[n]? = some (.lst ds) := by
  cases e : st[n]? with
  | none => simp only [lstOf, e] at h; cases h
  | some o =>
    cases o with
    | lst ys => simp only [lstOf, e] at h; cases h; rfl
    | dic _ => simp only [lstOf, e] at h; cases h
    | ins _ _ => simp only [lstOf, e] at h; cases h
theorem lst_of (R : Rl C ι H st) (r : Rp C.K ι H x d) (h : lstOf st d = some ds) : ∃ a xs, x = .ref a ∧ Rd H a (.lst xs) ∧ Rps C.K ι H xs ds := by
  cases r with
  | lst q r => simp only [lstOf, Option.some.injEq] at h; subst h; exact ⟨_, _, rfl, q.1, r⟩
  | @obj a n e =>
    obtain ⟨b, e2, xs, q, r⟩ := R.get (obj_lst h)
    rw [e] at e2
    cases e2
    exact ⟨_, _, rfl, .inl q, r⟩
  | _ => simp only [lstOf] at h; cases h
theorem seq_of (R : Rl C ι H st) (r : Rp C.K ι H x d) (h : seqOf st d = some ds) : ∃ a xs, x = .ref a ∧ (SqL C.K H a xs ∨ SqT C.K H a xs) ∧ Rps C.K ι H xs ds := by
  cases d with
  | tup ys =>
    cases r with
    | tup q r => simp only [seqOf, Option.some.injEq] at h; subst h; exact ⟨_, _, rfl, .inr q.t, r⟩
  | _ =>
    obtain ⟨a, xs, e, q, r⟩ := lst_of R r (show lstOf st _ = some ds from h)
    exact ⟨a, xs, e, .inl (.inl q), r⟩
end
/-! a new tuple, a new list, as a value -/
section
variable {C : Ctx} {E : XK} {ι : List Addr} {H : Hp} {st : Sto} {Q : VK} {p : Addr} {xs : List V} {ds : List D}
theorem new_tup (R : Rl C ι H st) (r : Rps C.K ι H xs ds) (h : Pst C (Rel1 C.K) E ι H Q (.ok (.tup ds) st)) (np : H p = none) : Q (.ref p) (upd H p (.tup xs)) :=
  h ι _ _ (Stp.new1 np) (R.new1 np) (.tup (.inl ⟨.inl upd_same, R.fresh np⟩) (r.step (Stp.new1 np)))
theorem new_lst (R : Rl C ι H st) (r : Rps C.K ι H xs ds) (h : Pst C (Rel1 C.K) E ι H Q (.ok (.lst ds) st)) (np : H p = none) : Q (.ref p) (upd H p (.lst xs)) :=
  h ι _ _ (Stp.new1 np) (R.new1 np) (.lst ⟨.inl upd_same, R.fresh np⟩ (r.step (Stp.new1 np)))
end

/-! ### arithmetic -/
def okIf (c : Bool) (d : D) : M D := fun st => if c then .ok d st else .bad
def szOk (n : Nat) : Bool := decide (n ≤ sizeLine)
def addD (a b : D) : M D := fun st => match a, b with
  | .int i, .int j => .ok (.int (i + j)) st
  | .str x, .str y => okIf (szOk (x.length + y.length)) (.str (x ++ y)) st
  | .tup xs, .tup ys => okIf (szOk (xs.length + ys.length)) (.tup (xs ++ ys)) st
  | a, b => match lstOf st a, lstOf st b with
    | some xs, some ys => okIf (szOk (xs.length + ys.length)) (.lst (xs ++ ys)) st
    | _, _ => .bad
def subD (a b : D) : M D := fun st => match a, b with
  | .int i, .int j => .ok (.int (i - j)) st
  | _, _ => .bad
def mulI (i j : Int) : Bool := decide (i.natAbs.log2 + j.natAbs.log2 < 1000000)
def mulD (a b : D) : M D := fun st => match a, b with
  | .int i, .int j => okIf (mulI i j) (.int (i * j)) st
  | _, _ => .bad
def divI (j : Int) : Bool := decide (j ≠ 0 ∧ j.natAbs.log2 < 9000)
def fdivD (a b : D) : M D := fun st => match a, b with
  | .int i, .int j => okIf (divI j) (.int (i.fdiv j)) st
  | _, _ => .bad
def modD (a b : D) : M D := fun st => match a, b with
  | .int i, .int j => okIf (decide (j ≠ 0)) (.int (i.fmod j)) st
  | _, _ => .bad
def powI (i j : Int) : Bool := decide (0 ≤ j ∧ j ≤ 1000000 ∧ i.natAbs < 2 ^ 64)
def powD (a b : D) : M D := fun st => match a, b with
  | .int i, .int j => okIf (powI i j) (.int (i ^ j.toNat)) st
  | _, _ => .bad
def negD (a : D) : M D := fun st => match a with
  | .int i => .ok (.int (-i)) st
  | _ => .bad
def ltD (a b : D) : M D := fun st => match a, b with
  | .int i, .int j => .ok (.bl (decide (i < j))) st
  | _, _ => .bad
def leD (a b : D) : M D := fun st => match a, b with
  | .int i, .int j => .ok (.bl (decide (i ≤ j))) st
  | _, _ => .bad
def gtD (a b : D) : M D := fun st => match a, b with
  | .int i, .int j => .ok (.bl (decide (j < i))) st
  | _, _ => .bad
def geD (a b : D) : M D := fun st => match a, b with
  | .int i, .int j => .ok (.bl (decide (j ≤ i))) st
  | _, _ => .bad
theorem okIf_cases {c : Bool} {d : D} {st : Sto} {C : Ctx} {E : XK} {ι : List Addr} {H : Hp} {Q : VK} (h : Pst C (Rel1 C.K) E ι H Q (okIf c d st)) : c = true ∧ Pst C (Rel1 C.K) E ι H Q (.ok d st) := by
  cases c with
  | true => exact ⟨rfl, h⟩
  | false => exact h.elim

section
variable {X : Cx} {C : Ctx}
/-- list + list -/
def rCatR : R2 := fun x y H Q => ∃ l b xs zs, x = .ref l ∧ y = .ref b ∧ Rd H l (.lst xs) ∧ Rd H b (.lst zs) ∧ xs.length + zs.length ≤ sizeLine ∧ ∀ p, H p = none → Q (.ref p) (upd H p (.lst (xs ++ zs)))
theorem rd_lst {pins : List (Addr × Obj)} {σ : L2.St} {H : Hp} {s : Shared} {l : Addr} {xs : List V} (I : Inv X pins σ H s) (h : Rd H l (.lst xs)) :
    xs.length ≤ sizeLine ∧ ∃ (us : List Value) (m : Nat), Vals xs us ∧ xs.length = us.length ∧ s.heap.get? l = some { cls := .type "list", data := .seq us.toArray m } := by
  obtain ⟨z, us, m, r, e⟩ := h.ok I.hok
  exact ⟨z, us, m, r, r.length, e⟩
theorem op_catR : OpR X (binaryOp .Add) rCatR := by
  intro pins s σ H x y v u Q I rx ry h
  obtain ⟨l, b, xs, zs, rfl, rfl, hl, hb, hz, q⟩ := h
  cases rx
  cases ry
  obtain ⟨z1, us1, m1, r1, l1, e1⟩ := rd_lst I hl
  obtain ⟨z2, us2, m2, r2, l2, e2⟩ := rd_lst I hb
  refine PySem.P.add_list e1 e2 ?_ (by rw [List.size_toArray, List.size_toArray, ← l1, ← l2]; exact hz)
  rw [show us1.toArray ++ us2.toArray = (us1 ++ us2).toArray by simp]
  refine ⟨.ref _, _, Inv.lnew (t' := s.toks) I (r1.append r2) ?_, rfl, q _ I.fresh⟩
  rw [List.length_append]
  exact hz
def rAddU (K : PySem.W.Frag) : R2 := fun x y H Q => rI0 (fun i j => .int (i + j)) x y H Q ∨ ((∃ i j, x = .str i ∧ y = .str j ∧ i.length + j.length ≤ sizeLine ∧ Q (.str (i ++ j)) H) ∨ (rCatA K x y H Q ∨ rCatR x y H Q))
theorem op_addU : OpR X (binaryOp .Add) (rAddU X.K) := op_add.or (op_add_str.or (op_catA.or op_catR))
theorem od_add : OpD C (rAddU C.K) addD := by
  intro E ι H st x y a b Q R rx ry h
  unfold addD at h
  split at h
  · cases rx; cases ry
    exact .inl ⟨_, _, rfl, rfl, h.pure R (.int _)⟩
  · cases rx; cases ry
    obtain ⟨c, h⟩ := okIf_cases h
    exact .inr (.inl ⟨_, _, rfl, rfl, of_decide_eq_true c, h.pure R (.str _)⟩)
  · rename_i xs ys
    obtain ⟨c, h⟩ := okIf_cases h
    cases rx with
    | @tup a vs _ qa ra =>
      cases ry with
      | @tup b ws _ qb rb =>
        refine .inr (.inr (.inl ⟨_, _, _, _, rfl, rfl, qa.t, qb.t, by rw [ra.length, rb.length]; exact of_decide_eq_true c, fun e => ?_, fun _ e => ?_, fun _ _ p np => new_tup R (ra.append rb) h np⟩))
        · subst e
          cases ra
          exact h.pure R (.tup qb rb)
        · subst e
          cases rb
          refine h.pure R (.tup qa ?_)
          rw [List.append_nil]
          exact ra
  · cases ha : lstOf st a with
    | none => simp only [ha] at h; exact h.elim
    | some xs =>
      cases hb : lstOf st b with
      | none => simp only [ha, hb] at h; exact h.elim
      | some ys =>
        simp only [ha, hb] at h
        obtain ⟨c, h⟩ := okIf_cases h
        obtain ⟨p1, vs, e1, q1, r1⟩ := lst_of R rx ha
        obtain ⟨p2, ws, e2, q2, r2⟩ := lst_of R ry hb
        exact .inr (.inr (.inr ⟨p1, p2, vs, ws, e1, e2, q1, q2, by rw [r1.length, r2.length]; exact of_decide_eq_true c, fun p np => new_lst R (r1.append r2) h np⟩))
/-- ints alone -/
theorem od_ii {r : R2} {f : D → D → M D} {c : Int → Int → Bool} {g : Int → Int → D} {gv : Int → Int → V} (hg : ∀ C ι H i j, Rp (Ctx.K C) ι H (gv i j) (g i j))
    (hr : ∀ i j H Q, c i j = true → Q (gv i j) H → r (.int i) (.int j) H Q) (hi : ∀ i j st, f (.int i) (.int j) st = okIf (c i j) (g i j) st)
    (hn : ∀ a b st, (∀ i j, a = .int i → b = .int j → False) → f a b st = .bad) : OpD C r f := by
  intro E ι H st x y a b Q R rx ry h
  by_cases ex : ∃ i j, a = .int i ∧ b = .int j
  · obtain ⟨i, j, rfl, rfl⟩ := ex
    cases rx; cases ry
    rw [hi] at h
    obtain ⟨hc, h⟩ := okIf_cases h
    exact hr _ _ _ _ hc (h.pure R (hg C _ _ _ _))
  · rw [hn a b st fun i j e1 e2 => ex ⟨i, j, e1, e2⟩] at h
    exact h.elim
theorem od_sub : OpD C (rI0 fun i j => .int (i - j)) subD := by
  refine od_ii (c := fun _ _ => true) (g := fun i j => .int (i - j)) (gv := fun i j => .int (i - j)) (fun _ _ _ _ _ => .int _) (fun i j H Q _ q => ⟨i, j, rfl, rfl, q⟩) (fun _ _ _ => rfl) fun a b st hn => ?_
  unfold subD
  split
  · exact (hn _ _ rfl rfl).elim
  · rfl
theorem od_mul : OpD C (rI CMulW fun i j => .int (i * j)) mulD := by
  refine od_ii (c := mulI) (g := fun i j => .int (i * j)) (gv := fun i j => .int (i * j)) (fun _ _ _ _ _ => .int _) (fun i j H Q c q => ⟨i, j, rfl, rfl, of_decide_eq_true (p := i.natAbs.log2 + j.natAbs.log2 < 1000000) c, q⟩) (fun _ _ _ => rfl) fun a b st hn => ?_
  unfold mulD
  split
  · exact (hn _ _ rfl rfl).elim
  · rfl
/-- // by any divisor but 0, below 2 ^ 9000 -/
theorem op_fdivD : OpR X (binaryOp .FloorDiv) (rI (fun _ j => j ≠ 0 ∧ j.natAbs.log2 < 9000) fun i j => .int (i.fdiv j)) :=
  opI fun _ _ _ _ _ _ _ hc q => floordiv_int hc.1 q (.inl (PyProof.noPylong_of_log2 hc.2))
theorem od_fdiv : OpD C (rI (fun _ j => j ≠ 0 ∧ j.natAbs.log2 < 9000) fun i j => .int (i.fdiv j)) fdivD := by
  refine od_ii (c := fun _ j => divI j) (g := fun i j => .int (i.fdiv j)) (gv := fun i j => .int (i.fdiv j)) (fun _ _ _ _ _ => .int _) (fun i j H Q c q => ⟨i, j, rfl, rfl, of_decide_eq_true c, q⟩) (fun _ _ _ => rfl) fun a b st hn => ?_
  unfold fdivD
  split
  · exact (hn _ _ rfl rfl).elim
  · rfl
theorem od_mod : OpD C (rI (fun _ j => j ≠ 0) fun i j => .int (i.fmod j)) modD := by
  refine od_ii (c := fun _ j => decide (j ≠ 0)) (g := fun i j => .int (i.fmod j)) (gv := fun i j => .int (i.fmod j)) (fun _ _ _ _ _ => .int _) (fun i j H Q c q => ⟨i, j, rfl, rfl, of_decide_eq_true c, q⟩) (fun _ _ _ => rfl) fun a b st hn => ?_
  unfold modD
  split
  · exact (hn _ _ rfl rfl).elim
  · rfl
theorem od_pow : OpD C (rI CPow fun i j => .int (i ^ j.toNat)) powD := by
  refine od_ii (c := powI) (g := fun i j => .int (i ^ j.toNat)) (gv := fun i j => .int (i ^ j.toNat)) (fun _ _ _ _ _ => .int _) (fun i j H Q c q => ⟨i, j, rfl, rfl, of_decide_eq_true (p := 0 ≤ j ∧ j ≤ 1000000 ∧ i.natAbs < 2 ^ 64) c, q⟩) (fun _ _ _ => rfl) fun a b st hn => ?_
  unfold powD
  split
  · exact (hn _ _ rfl rfl).elim
  · rfl
theorem od_cmp {f : D → D → M D} {p : Int → Int → Bool} (hi : ∀ i j st, f (.int i) (.int j) st = .ok (.bl (p i j)) st) (hn : ∀ a b st, (∀ i j, a = .int i → b = .int j → False) → f a b st = .bad) : OpD C (rI0 fun i j => .bl (p i j)) f :=
  od_ii (c := fun _ _ => true) (g := fun i j => .bl (p i j)) (gv := fun i j => .bl (p i j)) (fun _ _ _ _ _ => .bl _) (fun i j H Q _ q => ⟨i, j, rfl, rfl, q⟩) hi hn
theorem od_lt : OpD C (rI0 fun i j => .bl (decide (i < j))) ltD := od_cmp (fun _ _ _ => rfl) fun a b st hn => by
  unfold ltD
  split
  · exact (hn _ _ rfl rfl).elim
  · rfl
theorem od_le : OpD C (rI0 fun i j => .bl (decide (i ≤ j))) leD := od_cmp (fun _ _ _ => rfl) fun a b st hn => by
  unfold leD
  split
  · exact (hn _ _ rfl rfl).elim
  · rfl
theorem od_gt : OpD C (rI0 fun i j => .bl (decide (j < i))) gtD := od_cmp (fun _ _ _ => rfl) fun a b st hn => by
  unfold gtD
  split
  · exact (hn _ _ rfl rfl).elim
  · rfl
theorem od_ge : OpD C (rI0 fun i j => .bl (decide (j ≤ i))) geD := od_cmp (fun _ _ _ => rfl) fun a b st hn => by
  unfold geD
  split
  · exact (hn _ _ rfl rfl).elim
  · rfl
theorem ud_neg : UnD C (rU fun i => .int (-i)) negD := by
  intro E ι H st x a Q R rx h
  cases rx <;> first
    | (simp only [negD] at h; exact h.elim)
    | exact ⟨_, rfl, Pst.pure (rel := Rel1 C.K) h R (.int _)⟩
end
end Mir

namespace Mir
open PySem PySem.Spec PyProof.Rows L2

/-! ### truth, and, or, not, if-else -/
def asB : D → M Bool
  | .bl b => pure b
  | _ => bad
def eAnd (a b : Env → M D) : Env → M D := fun env => a env >>= fun x => asB x >>= fun c => if c then b env else pure (.bl false)
def eOr (a b : Env → M D) : Env → M D := fun env => a env >>= fun x => asB x >>= fun c => if c then pure (.bl true) else b env
def eNot (a : Env → M D) : Env → M D := fun env => a env >>= fun x => asB x >>= fun c => pure (.bl (!c))
def tst (a : Env → M D) : Env → M Bool := fun env => a env >>= asB
def tAndM (a b : Env → M Bool) : Env → M Bool := fun env => a env >>= fun c => if c then b env else pure false
def tOrM (a b : Env → M Bool) : Env → M Bool := fun env => a env >>= fun c => if c then pure true else b env
def tNotM (a : Env → M Bool) : Env → M Bool := fun env => a env >>= fun c => pure (!c)
def eIf (t : Env → M Bool) (a b : Env → M D) : Env → M D := fun env => t env >>= fun c => if c then a env else b env
theorem asB_bind {C : Ctx} {K : PySem.W.Frag} {γ δ : Type} {rel2 : List Addr → Hp → δ → γ → Prop} {E : XK} {ι : List Addr} {H : Hp} {Q : δ → Hp → Prop} {st : Sto} {x : V} {d : D} {f : Bool → M γ} (r : Rp K ι H x d)
    (h : Pst C rel2 E ι H Q ((asB d >>= f) st)) : ∃ c, x = .bl c ∧ Pst C rel2 E ι H Q (f c st) := by
  cases r with
  | bl b => exact ⟨b, rfl, h⟩
  | _ => exact h.elim
section
variable {X : Cx} {C : Ctx} {E : XK} {a b c e : Expr} {rest : List Expr} {pos : Pos} {ma mb : Env → M D} {ta tb : Env → M Bool}
theorem w_one {op} (h : PE X a (rdE C E ma)) : PE X (.BoolOp op [a] pos) (rdE C E ma) := pe_one h
theorem w_and (ha : PE X a (rdE C E ma)) (hb : PE X (.BoolOp .And (b :: rest) pos) (rdE C E mb)) : PE X (.BoolOp .And (a :: b :: rest) pos) (rdE C E (eAnd ma mb)) :=
  (pe_and ha hb).mono fun σ H Q ⟨env, ι, st, re, R, q⟩ => ⟨env, ι, st, re, R, (Pst.bind (rel := Rel1 C.K) q).mono fun x H1 ⟨d, ι1, st1, s1, R1, r1, q1⟩ => by
    obtain ⟨c, e, q2⟩ := asB_bind r1 q1
    refine ⟨c, e, ?_⟩
    cases c with
    | true => exact ⟨env, ι1, st1, re.step s1, R1, q2⟩
    | false => exact q2.pure R1 (.bl false)⟩
theorem w_or (ha : PE X a (rdE C E ma)) (hb : PE X (.BoolOp .Or (b :: rest) pos) (rdE C E mb)) : PE X (.BoolOp .Or (a :: b :: rest) pos) (rdE C E (eOr ma mb)) :=
  (pe_or ha hb).mono fun σ H Q ⟨env, ι, st, re, R, q⟩ => ⟨env, ι, st, re, R, (Pst.bind (rel := Rel1 C.K) q).mono fun x H1 ⟨d, ι1, st1, s1, R1, r1, q1⟩ => by
    obtain ⟨c, e, q2⟩ := asB_bind r1 q1
    refine ⟨c, e, ?_⟩
    cases c with
    | true => exact q2.pure R1 (.bl true)
    | false => exact ⟨env, ι1, st1, re.step s1, R1, q2⟩⟩
theorem w_not (ha : PE X a (rdE C E ma)) : PE X (.UnaryOp .Not a pos) (rdE C E (eNot ma)) :=
  (pe_not ha).mono fun σ H Q ⟨env, ι, st, re, R, q⟩ => ⟨env, ι, st, re, R, (Pst.bind (rel := Rel1 C.K) q).mono fun x H1 ⟨d, ι1, st1, s1, R1, r1, q1⟩ => by
    obtain ⟨c, e, q2⟩ := asB_bind r1 q1
    exact ⟨c, e, q2.pure R1 (.bl _)⟩⟩
theorem rd_tst {σ : L2.St} {H : Hp} {Q : Bool → Hp → Prop} (q : rdT C E (tst ma) σ H Q) : tB (rdE C E ma) σ H Q := by
  obtain ⟨env, ι, st, re, R, q⟩ := q
  refine ⟨env, ι, st, re, R, (Pst.bind (rel := Rel1 C.K) q).mono ?_⟩
  rintro x H1 ⟨d, ι1, st1, s1, R1, r1, q1⟩
  cases r1 with
  | bl b => exact ⟨b, rfl, Pst.pure (rel := RelB) q1 R1 rfl⟩
  | _ => exact q1.elim
/-- a test by the value of a call, a name, an item .. -/
theorem t_val (h : PE X e (rdE C E ma)) (he : ∀ whole, isTrue e X.env whole = (do let v ← whole; standAt e.pos; holding [v] (truthy v)) := by intro _; rfl) : PT X e (rdT C E (tst ma)) :=
  (pt_val h he).mono fun _ _ _ => rd_tst
theorem t_cmp {op : CmpOp} {r : R2} {f : D → D → M D} (ho : OpR X (compareOp op) r) (h : OpD C r f) (ha : PE X a (rdE C E ma)) (hb : PE X b (rdE C E mb)) (hm : behindInMarks op b = false) :
    PT X (.Compare a [op] [b] pos) (rdT C E (tst (eOp f ma mb))) := (pt_cmpR ho ha hb hm).mono fun σ H Q q => by
  have q' := rd_tst q
  obtain ⟨env, ι, st, re, R, q2⟩ := q'
  exact rd_op h ⟨env, ι, st, re, R, q2⟩
theorem t_and1 (h : PT X a (rdT C E ta)) : PW X (.BoolOp .And [a] pos) (rdT C E ta) := pw_and1 h
theorem t_or1 (h : PT X a (rdT C E ta)) : PW X (.BoolOp .Or [a] pos) (rdT C E ta) := pw_or1 h
theorem t_and (ha : PT X a (rdT C E ta)) (hb : PW X (.BoolOp .And (b :: rest) pos) (rdT C E tb)) : PW X (.BoolOp .And (a :: b :: rest) pos) (rdT C E (tAndM ta tb)) :=
  (pw_and ha hb).mono fun σ H Q ⟨env, ι, st, re, R, q⟩ => ⟨env, ι, st, re, R, (Pst.bind (rel := RelB) q).mono fun x H1 ⟨d, ι1, st1, s1, R1, r1, q1⟩ => by
    obtain rfl : x = d := r1
    cases x with
    | true => exact ⟨env, ι1, st1, re.step s1, R1, q1⟩
    | false => exact Pst.pure (rel := RelB) q1 R1 rfl⟩
theorem t_or (ha : PT X a (rdT C E ta)) (hb : PW X (.BoolOp .Or (b :: rest) pos) (rdT C E tb)) : PW X (.BoolOp .Or (a :: b :: rest) pos) (rdT C E (tOrM ta tb)) :=
  (pw_or ha hb).mono fun σ H Q ⟨env, ι, st, re, R, q⟩ => ⟨env, ι, st, re, R, (Pst.bind (rel := RelB) q).mono fun x H1 ⟨d, ι1, st1, s1, R1, r1, q1⟩ => by
    obtain rfl : x = d := r1
    cases x with
    | true => exact Pst.pure (rel := RelB) q1 R1 rfl
    | false => exact ⟨env, ι1, st1, re.step s1, R1, q1⟩⟩
theorem t_not (ha : PT X a (rdT C E ta)) : PT X (.UnaryOp .Not a pos) (rdT C E (tNotM ta)) :=
  (pt_not ha).mono fun σ H Q ⟨env, ι, st, re, R, q⟩ => ⟨env, ι, st, re, R, (Pst.bind (rel := RelB) q).mono fun x H1 ⟨d, ι1, st1, s1, R1, r1, q1⟩ => by
    obtain rfl : x = d := r1
    exact Pst.pure (rel := RelB) q1 R1 rfl⟩
theorem w_if (hc : PT X c (rdT C E ta)) (ha : PE X a (rdE C E ma)) (hb : PE X b (rdE C E mb)) : PE X (.IfExp c a b pos) (rdE C E (eIf ta ma mb)) :=
  (pe_ifExp hc ha hb).mono fun σ H Q ⟨env, ι, st, re, R, q⟩ => ⟨env, ι, st, re, R, (Pst.bind (rel := RelB) q).mono fun x H1 ⟨d, ι1, st1, s1, R1, r1, q1⟩ => by
    obtain rfl : x = d := r1
    cases x with
    | true => exact ⟨env, ι1, st1, re.step s1, R1, q1⟩
    | false => exact ⟨env, ι1, st1, re.step s1, R1, q1⟩⟩
/-- a < b < c: b asked once -/
def eChain (f g : D → D → M D) (a b c : Env → M D) : Env → M D := fun env => a env >>= fun x => b env >>= fun y => f x y >>= fun z => asB z >>= fun k => if k then c env >>= fun u => g y u else pure (.bl false)
theorem rd_chain {r r' : R2} {f g : D → D → M D} {ma mb mc : Env → M D} (h : OpD C r f) (h' : OpD C r' g) {σ : L2.St} {H : Hp} {Q : VK} (q : rdE C E (eChain f g ma mb mc) σ H Q) : tChain r r' (rdE C E ma) (rdE C E mb) (rdE C E mc) σ H Q := by
  obtain ⟨env, ι, st, re, R, q⟩ := q
  refine ⟨env, ι, st, re, R, (Pst.bind (rel := Rel1 C.K) q).mono ?_⟩
  rintro x H1 ⟨a, ι1, st1, s1, R1, r1, q1⟩
  refine ⟨env, ι1, st1, re.step s1, R1, (Pst.bind (rel := Rel1 C.K) q1).mono ?_⟩
  rintro y H2 ⟨b, ι2, st2, s2, R2, r2, q2⟩
  refine h E ι2 H2 st2 x y a b _ R2 (Rp.step s2 r1) r2 ((Pst.bind (rel := Rel1 C.K) q2).mono ?_)
  rintro z H3 ⟨d, ι3, st3, s3, R3, r3, q3⟩
  obtain ⟨k, e, q4⟩ := asB_bind r3 q3
  refine ⟨k, e, ?_⟩
  cases k with
  | true =>
    refine ⟨env, ι3, st3, re.step (s1.trans (s2.trans s3)), R3, (Pst.bind (rel := Rel1 C.K) q4).mono ?_⟩
    rintro u H4 ⟨c, ι4, st4, s4, R4, r4, q5⟩
    exact h' E ι4 H4 st4 y u b c Q R4 (Rp.step (s3.trans s4) r2) r4 q5
  | false => exact q4.pure R3 (.bl false)
end

/-! ### arguments, displays -/
def aNil : Env → M (List D) := fun _ => pure []
def aCons (a : Env → M D) (r : Env → M (List D)) : Env → M (List D) := fun env => a env >>= fun x => r env >>= fun xs => pure (x :: xs)
def eTup (a : Env → M (List D)) : Env → M D := fun env => a env >>= fun xs => okIf (szOk xs.length) (.tup xs)
def eLst (a : Env → M (List D)) : Env → M D := fun env => a env >>= fun xs => okIf (szOk xs.length) (.lst xs)
/-- a new object -/
def allocD (o : O) : M D := fun st => .ok (.obj st.length) (st ++ [o])
def eNew (a : Env → M (List D)) : Env → M D := fun env => a env >>= fun xs => fun st => if szOk xs.length then allocD (.lst xs) st else .bad
section
variable {C : Ctx} {E : XK} {ι : List Addr} {H : Hp} {st : Sto} {Q : VK} {p : Addr} {xs : List V} {ds : List D}
theorem new_obj (R : Rl C ι H st) (r : Rps C.K ι H xs ds) (h : Pst C (Rel1 C.K) E ι H Q (allocD (.lst ds) st)) (np : H p = none) : Q (.ref p) (upd H p (.lst xs)) := by
  have s := Stp.alloc (ι := ι) (o := .lst xs) np
  refine h (ι ++ [p]) _ _ s (R.alloc np fun H' s' e => ⟨xs, e, r.step s'⟩) (.obj ?_)
  rw [← R.len, List.getElem?_append_right (Nat.le_refl _), Nat.sub_self]
  rfl
end
section
variable {X : Cx} {C : Ctx} {E : XK} {a : Expr} {es : List Expr} {pos : Pos} {ma : Env → M D} {mr : Env → M (List D)}
theorem a_nil : PA X [] (rdA C E aNil) := pa_nil.mono fun σ H Q ⟨env, ι, st, re, R, q⟩ => Pst.pure (rel := RelA C.K) q R .nil
theorem a_cons (ha : PE X a (rdE C E ma)) (hr : PA X es (rdA C E mr)) (hs : starEach (a :: es) X.env = (false, eval a X.env) :: starEach es X.env := by rfl) : PA X (a :: es) (rdA C E (aCons ma mr)) :=
  (pa_cons ha hr hs).mono fun σ H Q ⟨env, ι, st, re, R, q⟩ => ⟨env, ι, st, re, R, (Pst.bind (rel := Rel1 C.K) q).mono fun x H1 ⟨d, ι1, st1, s1, R1, r1, q1⟩ =>
    ⟨env, ι1, st1, re.step s1, R1, (Pst.bind (rel := RelA C.K) q1).mono fun xs H2 ⟨ds, ι2, st2, s2, R2, r2, q2⟩ => Pst.pure (rel := RelA C.K) q2 R2 (.cons (Rp.step s2 r1) r2)⟩⟩
theorem w_tup {x1} (h : PA X es (rdA C E mr)) : PE X (.Tuple es x1 pos) (rdE C E (eTup mr)) :=
  (pe_tup h).mono fun σ H Q ⟨env, ι, st, re, R, q⟩ => ⟨env, ι, st, re, R, (Pst.bind (rel := RelA C.K) q).mono fun xs H1 ⟨ds, ι1, st1, s1, R1, r1, q1⟩ => by
    obtain ⟨c, q2⟩ := okIf_cases q1
    exact ⟨by rw [Rps.length r1]; exact of_decide_eq_true c, fun p np => new_tup R1 r1 q2 np⟩⟩
theorem w_lst (h : PA X es (rdA C E mr)) : PE X (.List es pos) (rdE C E (eLst mr)) :=
  (pe_lst h).mono fun σ H Q ⟨env, ι, st, re, R, q⟩ => ⟨env, ι, st, re, R, (Pst.bind (rel := RelA C.K) q).mono fun xs H1 ⟨ds, ι1, st1, s1, R1, r1, q1⟩ => by
    obtain ⟨c, q2⟩ := okIf_cases q1
    exact ⟨by rw [Rps.length r1]; exact of_decide_eq_true c, fun p np => new_lst R1 r1 q2 np⟩⟩
theorem w_new (h : PA X es (rdA C E mr)) : PE X (.List es pos) (rdE C E (eNew mr)) :=
  (pe_lst h).mono fun σ H Q ⟨env, ι, st, re, R, q⟩ => ⟨env, ι, st, re, R, (Pst.bind (rel := RelA C.K) q).mono fun xs H1 ⟨ds, ι1, st1, s1, R1, r1, q1⟩ => by
    cases c : szOk ds.length with
    | true =>
      simp only [c, if_true] at q1
      exact ⟨by rw [Rps.length r1]; exact of_decide_eq_true c, fun p np => new_obj R1 r1 q1 np⟩
    | false => simp only [c] at q1; exact q1.elim⟩
end

/-! ### items, slices -/
theorem atI_rps {K : PySem.W.Frag} {ι : List Addr} {H : Hp} {vs : List V} {ds : List D} {i : Int} {d : D} (r : Rps K ι H vs ds) (h : atI ds i = some d) : ∃ v, atI vs i = some v ∧ Rp K ι H v d := by
  unfold atI at h ⊢
  rw [r.length]
  cases e : ixN ds.length i with
  | none => rw [e] at h; cases h
  | some j =>
    rw [e] at h
    obtain ⟨v, h1, h2⟩ := r.get (show ds[j]? = some d from h)
    exact ⟨v, h1, h2⟩
def keyD : D → Option Key
  | .int i => some (.inl i)
  | .str x => some (.inr x)
  | _ => none
def lookD (kvs : List (Key × D)) (k : Key) : Option D := (kvs.find? fun kv => decide (kv.1 = k)).map (·.2)
def dicOf (st : Sto) : D → Option (List (Key × D))
  | .obj n => match st[n]? with
    | some (.dic kvs) => some kvs
    | _ => none
  | _ => none
def ixD (a i : D) : M D := fun st => match seqOf st a with
  | some xs => match i with
    | .int k => match atI xs k with
      | some d => .ok d st
      | none => .bad
    | _ => .bad
  | none => match dicOf st a with
    | some kvs => match keyD i with
      | some k => match lookD kvs k with
        | some d => .ok d st
        | none => .bad
      | none => .bad
    | none => match a, i with
      | .str z, .int k => if szOk z.length then (match atI z.cps.toList k with
        | some c => .ok (.str ⟨#[c]⟩) st
        | none => .bad) else .bad
      | _, _ => .bad
theorem look_rel {K : PySem.W.Frag} {ι : List Addr} {H : Hp} : ∀ {ps : List (Key × V)} {kvs : List (Key × D)} (k : Key), Rkv K ι H ps kvs → (∀ d, lookD kvs k = some d → ∃ v, valV ps k = some v ∧ Rp K ι H v d) ∧ (lookD kvs k = none → valV ps k = none)
  | _, _, k, .nil => ⟨fun d h => (nomatch h), fun _ => rfl⟩
  | p :: ps, q :: kvs, k, .cons ⟨e, r⟩ t => by
    have ih := look_rel k t
    by_cases z : q.1 = k
    · have z' : p.1 = k := e.trans z
      constructor
      · intro d h
        have hd : d = q.2 := by
          simp only [lookD, List.find?_cons, z, decide_true, Option.map_some, Option.some.injEq] at h
          exact h.symm
        subst hd
        refine ⟨p.2, ?_, r⟩
        simp only [valV, List.find?_cons, z', decide_true, Option.map_some]
      · intro h
        simp only [lookD, List.find?_cons, z, decide_true, Option.map_some] at h
        cases h
    · have z' : ¬ p.1 = k := fun w => z (e.symm.trans w)
      have e1 : lookD (q :: kvs) k = lookD kvs k := by simp only [lookD, List.find?_cons, z, decide_false]
      have e2 : valV (p :: ps) k = valV ps k := by simp only [valV, List.find?_cons, z', decide_false]
      rw [e1, e2]
      exact ih
theorem dic_of {C : Ctx} {ι : List Addr} {H : Hp} {st : Sto} {x : V} {d : D} {kvs : List (Key × D)} (R : Rl C ι H st) (r : Rp C.K ι H x d) (h : dicOf st d = some kvs) : ∃ n a ps, d = .obj n ∧ x = .ref a ∧ ι[n]? = some a ∧ H a = some (.dK ps) ∧ Rkv C.K ι H ps kvs := by
  cases r with
  | @obj a n e =>
    obtain ⟨b, e2, q⟩ : ∃ b, ι[n]? = some b ∧ Ob C ι H b (.dic kvs) := by
      cases s : st[n]? with
      | none => simp only [dicOf, s] at h; cases h
      | some o =>
        cases o with
        | dic ys => simp only [dicOf, s, Option.some.injEq] at h; subst h; exact R.get s
        | lst _ => simp only [dicOf, s] at h; cases h
        | ins _ _ => simp only [dicOf, s] at h; cases h
    rw [e] at e2
    cases e2
    obtain ⟨ps, e3, r⟩ := q
    exact ⟨n, a, ps, rfl, rfl, e, e3, r⟩
  | _ => simp only [dicOf] at h; cases h
theorem key_of {K : PySem.W.Frag} {ι : List Addr} {H : Hp} {x : V} {d : D} {k : Key} (r : Rp K ι H x d) (h : keyD d = some k) : x = kV k := by
  cases r <;> first
    | (simp only [keyD, Option.some.injEq] at h; subst h; rfl)
    | (simp only [keyD] at h; cases h)
def rIxU (K : PySem.W.Frag) : R2 := fun x y H Q => rIx K x y H Q ∨ ∃ a v, x = .ref a ∧ DGet H a y (some v) ∧ Q v H
theorem od_ix {C : Ctx} : OpD C (rIxU C.K) ixD := by
  intro E ι H st x y a b Q R rx ry h
  unfold ixD at h
  cases e1 : seqOf st a with
  | some xs =>
    simp only [e1] at h
    cases ry with
    | int k =>
      cases e2 : atI xs k with
      | none => simp only [e2] at h; exact h.elim
      | some d =>
        simp only [e2] at h
        obtain ⟨p, vs, ex, q, r⟩ := seq_of R rx e1
        obtain ⟨v, ev, rv⟩ := atI_rps r e2
        rcases q with q | q
        · exact .inl (.inl ⟨p, vs, k, v, ex, rfl, q, ev, h.pure R rv⟩)
        · exact .inl (.inr (.inl ⟨p, vs, k, v, ex, rfl, q, ev, h.pure R rv⟩))
    | _ => exact h.elim
  | none =>
    simp only [e1] at h
    cases e2 : dicOf st a with
    | some kvs =>
      simp only [e2] at h
      cases e3 : keyD b with
      | none => simp only [e3] at h; exact h.elim
      | some k =>
        simp only [e3] at h
        cases e4 : lookD kvs k with
        | none => simp only [e4] at h; exact h.elim
        | some d =>
          simp only [e4] at h
          obtain ⟨n, p, ps, _, ex, _, ep, r⟩ := dic_of R rx e2
          obtain ⟨v, ev, rv⟩ := (look_rel k r).1 d e4
          rw [key_of ry e3]
          refine .inr ⟨p, v, ex, ?_, h.pure R rv⟩
          rw [← ev]
          exact DGet.k ep
    | none =>
      simp only [e2] at h
      cases rx with
      | str z =>
        cases ry with
        | int k =>
          simp only at h
          cases c : szOk z.length with
          | false => simp only [c] at h; exact h.elim
          | true =>
            simp only [c, if_true] at h
            cases e4 : atI z.cps.toList k with
            | none => simp only [e4] at h; exact h.elim
            | some d =>
              simp only [e4] at h
              exact .inl (.inr (.inr ⟨z, k, d, rfl, rfl, of_decide_eq_true c, e4, h.pure R (.str _)⟩))
        | _ => exact h.elim
      | _ => first | exact h.elim | (cases ry <;> exact h.elim)
section
variable {X : Cx} {C : Ctx} {E : XK} {a b : Expr} {pos : Pos} {ma mb : Env → M D}
/-- d[k] by values -/
def rDG : R2 := fun x y H Q => ∃ a v, x = .ref a ∧ DGet H a y (some v) ∧ Q v H
theorem ix_dic (hu : X.A.units + 1 < cLine) : IxR X rDG := by
  intro value slice pins s σ H x y v u Q I rx ry h hs
  obtain ⟨a, w, rfl, g, q⟩ := h
  obtain rfl : v = Value.ref a := rx
  have hT := dict_typeIs I g
  unfold subscriptTail
  refine wpAny_bind ?_
  rw [getitemInPython_of_ne hT.not_modules]
  refine wpAny_bind (wpAny_specialOf hT PySem.F.slot_dict_getitem.lookup ?_)
  have step : wpAny (model X.prog X.w) X.A (subscripted slice false (.ref a) u) (fun r s3 => wpAny (model X.prog X.w) X.A (letTemporaryGo value (.ref a) r >>= fun _ => pure r) (EP X pins σ Q) X.xe s3) X.xe s := by
    rw [hs]
    refine wpAny_operating ?_
    exact d_getItem hu I g ry fun w' s3 I3 rw' => wpAny_bind (wpAny_letTemporaryGo (wpAny_pure ⟨w, H, I3, rw', q⟩))
  first
    | exact wpAny_pure (wpAny_bind step)
    | exact wpAny_bind (wpAny_pure (wpAny_bind step))
    | exact wpAny_bind step
theorem ix_U (hu : X.A.units + 1 < cLine) : IxR X (rIxU X.K) := ix_seq.or (ix_dic hu)
theorem w_ix (hK : X.K = C.K) (hu : X.A.units + 1 < cLine) (ha : PE X a (rdE C E ma)) (hb : PE X b (rdE C E mb)) (hs : PlainIx b := by exact fun _ _ => rfl) : PE X (.Subscript a b pos) (rdE C E (eOp ixD ma mb)) :=
  (pe_ix (ix_U hu) ha hb hs).mono fun _ _ _ => rd_op (by rw [hK]; exact od_ix)
end

/-! ### slices -/
def cutL {α : Type} (xs : List α) (lo hi : Option Int) : List α := (xs.drop (HT.sIx xs.length 0 lo)).take (HT.sIx xs.length xs.length hi - HT.sIx xs.length 0 lo)
theorem cutL_rps {K : PySem.W.Frag} {ι : List Addr} {H : Hp} {vs : List V} {ds : List D} (lo hi : Option Int) (r : Rps K ι H vs ds) : Rps K ι H (cutV vs lo hi) (cutL ds lo hi) := by
  unfold cutV cutL
  rw [r.length]
  exact (r.drop _).take _
def sliceD (a : D) (lo hi : Option Int) : M D := fun st => match a with
  | .tup xs => .ok (.tup (cutL xs lo hi)) st
  | .str z => if szOk z.length then .ok (.str (Txt.slice z lo hi)) st else .bad
  | a => match lstOf st a with
    | some xs => .ok (.lst (cutL xs lo hi)) st
    | none => .bad
def oNone : Env → M (Option Int) := fun _ => pure none
def asI : D → M (Option Int)
  | .int i => pure (some i)
  | _ => bad
def oSome (a : Env → M D) : Env → M (Option Int) := fun env => a env >>= asI
def eSlice (a : Env → M D) (l h : Env → M (Option Int)) : Env → M D := fun env => a env >>= fun x => l env >>= fun lo => h env >>= fun hi => sliceD x lo hi
section
variable {X : Cx} {C : Ctx} {E : XK} {a b : Expr} {lo hi : Option Expr} {pos p2 : Pos} {ma : Env → M D} {ml mh : Env → M (Option Int)}
theorem o_none : PO X none (rdO C E oNone) := ⟨fun pins s σ H Q I ⟨env, ι, st, re, R, q⟩ => (po_none (X := X)).run pins s σ H Q I (Pst.pure (rel := RelI) q R rfl)⟩
theorem o_some (ha : PE X a (rdE C E ma)) : PO X (some a) (rdO C E (oSome ma)) := ⟨fun pins s σ H Q I ⟨env, ι, st, re, R, q⟩ => (po_some ha).run pins s σ H Q I
  ⟨env, ι, st, re, R, (Pst.bind (rel := Rel1 C.K) q).mono fun x H1 ⟨d, ι1, st1, s1, R1, r1, q1⟩ => by
    cases r1 with
    | int i => exact ⟨i, rfl, Pst.pure (rel := RelI) q1 R1 rfl⟩
    | _ => exact q1.elim⟩⟩
def rSlU (K : PySem.W.Frag) : V → Option Int → Option Int → Hp → VK → Prop := fun x lo hi H Q => rSlA K x lo hi H Q ∨ (rSlL K x lo hi H Q ∨ C8.rSlX x lo hi H Q)
theorem sl_U : SlR X (rSlU X.K) := sl_tupA.or (sl_list.or C8.sl_txt)
theorem cut_whole {α : Type} (xs : List α) (lo hi : Option Int) (h : HT.sIx xs.length 0 lo = 0 ∧ HT.sIx xs.length xs.length hi = xs.length) : cutL xs lo hi = xs := by
  unfold cutL
  rw [h.1, h.2]
  simp
theorem rd_slice {E : XK} {ι : List Addr} {H : Hp} {st : Sto} {x : V} {d : D} {lo hi : Option Int} {Q : VK} (R : Rl C ι H st) (r : Rp C.K ι H x d) (h : Pst C (Rel1 C.K) E ι H Q (sliceD d lo hi st)) : rSlU C.K x lo hi H Q := by
  unfold sliceD at h
  split at h
  · rename_i xs
    cases r with
    | @tup p vs _ q r =>
      refine .inl ⟨p, vs, rfl, q.t, fun w => ?_, fun w a np => new_tup R (cutL_rps lo hi r) h np⟩
      refine h.pure R (.tup q ?_)
      rw [cut_whole xs lo hi (by rw [← r.length]; exact w)]
      exact r
  · cases r
    rename_i z
    cases c : szOk z.length with
    | false => simp only [c] at h; exact h.elim
    | true =>
      simp only [c, if_true] at h
      exact .inr (.inr ⟨z, rfl, of_decide_eq_true c, h.pure R (.str _)⟩)
  · cases e : lstOf st d with
    | none => simp only [e] at h; exact h.elim
    | some xs =>
      simp only [e] at h
      obtain ⟨p, vs, ex, q, r⟩ := lst_of R r e
      exact .inr (.inl ⟨p, vs, ex, .inl q, fun a np => new_lst R (cutL_rps lo hi r) h np⟩)
theorem w_slice (hK : X.K = C.K) (ha : PE X a (rdE C E ma)) (hl : PO X lo (rdO C E ml)) (hh : PO X hi (rdO C E mh)) : PE X (.Subscript a (.Slice lo hi none p2) pos) (rdE C E (eSlice ma ml mh)) :=
  (pe_slice sl_U ha hl hh).mono fun σ H Q ⟨env, ι, st, re, R, q⟩ => ⟨env, ι, st, re, R, (Pst.bind (rel := Rel1 C.K) q).mono fun x H1 ⟨d, ι1, st1, s1, R1, r1, q1⟩ =>
    ⟨env, ι1, st1, re.step s1, R1, (Pst.bind (rel := RelI) q1).mono fun l H2 ⟨l', ι2, st2, s2, R2, e2, q2⟩ => by
      obtain rfl : l = l' := e2
      exact ⟨env, ι2, st2, re.step (s1.trans s2), R2, (Pst.bind (rel := RelI) q2).mono fun h H3 ⟨h', ι3, st3, s3, R3, e3, q3⟩ => by
        obtain rfl : h = h' := e3
        rw [hK]
        exact rd_slice R3 (Rp.step (s2.trans s3) r1) q3⟩⟩⟩
end

/-! ### ==, !=, is, in -/
def allSome {α β : Type} (f : α → Option β) : List α → Option (List β)
  | [] => some []
  | x :: xs => match f x, allSome f xs with
    | some y, some ys => some (y :: ys)
    | _, _ => none
mutual
def toPy : D → Option PyData
  | .non => some .none
  | .bl b => some (.bool b)
  | .int i => some (.int i)
  | .str x => some (.str x)
  | .tup xs => (toPys xs).map .tuple
  | .lst xs => (toPys xs).map .list
  | .obj _ => none
  | .scr _ => none
def toPys : List D → Option (List PyData)
  | [] => some []
  | x :: xs => match toPy x, toPys xs with
    | some y, some ys => some (y :: ys)
    | _, _ => none
end
def resolve (st : Sto) (d : D) : D := match d with
  | .obj n => match st[n]? with
    | some (.lst xs) => .lst xs
    | _ => .obj n
  | d => d
mutual
theorem dp_of {K : PySem.W.Frag} {ι : List Addr} {H : Hp} : ∀ {v : V} {d : D} {p : PyData}, Rp K ι H v d → toPy d = some p → Dp K H v p
  | _, _, _, .non, h => by simp only [toPy, Option.some.injEq] at h; subst h; exact .non
  | _, _, _, .bl b, h => by simp only [toPy, Option.some.injEq] at h; subst h; exact .bl b
  | _, _, _, .int i, h => by simp only [toPy, Option.some.injEq] at h; subst h; exact .int i
  | _, _, _, .str x, h => by simp only [toPy, Option.some.injEq] at h; subst h; exact .str x
  | _, .tup ds, p, .tup q r, h => by
    cases e : toPys ds with
    | none => simp only [toPy, e, Option.map_none] at h; cases h
    | some ps =>
      simp only [toPy, e, Option.map_some, Option.some.injEq] at h
      subst h
      exact .tup q.t (dps_of r e)
  | _, .lst ds, p, .lst q r, h => by
    cases e : toPys ds with
    | none => simp only [toPy, e, Option.map_none] at h; cases h
    | some ps =>
      simp only [toPy, e, Option.map_some, Option.some.injEq] at h
      subst h
      exact .lst q.l (dps_of r e)
  | _, _, _, .obj _, h => by simp only [toPy] at h; cases h
  | _, _, _, .scr _, h => by simp only [toPy] at h; cases h
theorem dps_of {K : PySem.W.Frag} {ι : List Addr} {H : Hp} : ∀ {vs : List V} {ds : List D} {ps : List PyData}, Rps K ι H vs ds → toPys ds = some ps → DpAll K H vs ps
  | _, _, _, .nil, h => by simp only [toPys, Option.some.injEq] at h; subst h; exact .nil
  | _, d :: ds, ps, .cons r t, h => by
    cases e : toPy d with
    | none => simp only [toPys, e] at h; cases h
    | some y =>
      cases e2 : toPys ds with
      | none => simp only [toPys, e, e2] at h; cases h
      | some ys =>
        simp only [toPys, e, e2, Option.some.injEq] at h
        subst h
        exact .cons (dp_of r e) (dps_of t e2)
end
theorem dp_res {C : Ctx} {ι : List Addr} {H : Hp} {st : Sto} {v : V} {d : D} {p : PyData} (R : Rl C ι H st) (r : Rp C.K ι H v d) (h : toPy (resolve st d) = some p) : Dp C.K H v p := by
  cases r with
  | @obj a n e =>
    cases s : st[n]? with
    | none => simp only [resolve, s, toPy] at h; cases h
    | some o =>
      cases o with
      | lst xs =>
        simp only [resolve, s] at h
        obtain ⟨b, e2, vs, q, r⟩ := R.get s
        rw [e] at e2
        cases e2
        cases e3 : toPys xs with
        | none => simp only [toPy, e3, Option.map_none] at h; cases h
        | some ps =>
          simp only [toPy, e3, Option.map_some, Option.some.injEq] at h
          subst h
          exact .lst (.inl (.inl q)) (dps_of r e3)
      | dic _ => simp only [resolve, s, toPy] at h; cases h
      | ins _ _ => simp only [resolve, s, toPy] at h; cases h
  | non => exact dp_of (ι := ι) .non h
  | bl b => exact dp_of (ι := ι) (.bl b) h
  | int i => exact dp_of (ι := ι) (.int i) h
  | str x => exact dp_of (ι := ι) (.str x) h
  | tup q r => exact dp_of (.tup q r) h
  | lst q r => exact dp_of (.lst q r) h
  | scr q => simp only [resolve, toPy] at h; cases h
def eqD (neg : Bool) (a b : D) : M D := fun st => match toPy (resolve st a), toPy (resolve st b) with
  | some p, some q => okIf (SeqAt.shaped p && SeqAt.shaped q) (.bl (if neg then !PyData.eqv p q else PyData.eqv p q)) st
  | _, _ => .bad
def rEqU (K : PySem.W.Frag) (neg : Bool) : R2 := fun x y H Q => if neg then rNeD K x y H Q else rEqD K x y H Q
theorem od_eq {C : Ctx} {neg : Bool} : OpD C (rEqU C.K neg) (eqD neg) := by
  intro E ι H st x y a b Q R rx ry h
  unfold eqD at h
  cases e1 : toPy (resolve st a) with
  | none => simp only [e1] at h; exact h.elim
  | some p =>
    cases e2 : toPy (resolve st b) with
    | none => simp only [e1, e2] at h; exact h.elim
    | some q =>
      simp only [e1, e2] at h
      obtain ⟨c, h⟩ := okIf_cases h
      obtain ⟨c1, c2⟩ := Bool.and_eq_true_iff.mp c
      cases neg with
      | true => exact ⟨p, q, dp_res R rx e1, dp_res R ry e2, c1, c2, h.pure R (.bl _)⟩
      | false => exact ⟨p, q, dp_res R rx e1, dp_res R ry e2, c1, c2, h.pure R (.bl _)⟩
/-- is None, is not None; is True .. -/
def isD (neg : Bool) (a b : D) : M D := fun st => match b with
  | .non => .ok (.bl (xor neg (match a with | .non => true | _ => false))) st
  | .bl k => match a with
    | .bl j => .ok (.bl (xor neg (decide (j = k)))) st
    | _ => .bad
  | _ => .bad
def rIsU (neg : Bool) : R2 := fun x y H Q => (y = .non ∧ Q (.bl (xor neg (decide (x = .non)))) H) ∨ ∃ a b : Bool, x = .bl a ∧ y = .bl b ∧ Q (.bl (xor neg (decide (a = b)))) H
theorem od_is {C : Ctx} {neg : Bool} : OpD C (rIsU neg) (isD neg) := by
  intro E ι H st x y a b Q R rx ry h
  cases ry with
  | non =>
    refine .inl ⟨rfl, ?_⟩
    cases rx with
    | non => exact Pst.pure (rel := Rel1 C.K) h R (.bl _)
    | _ => exact Pst.pure (rel := Rel1 C.K) h R (.bl _)
  | bl k =>
    cases rx with
    | bl j => exact .inr ⟨j, k, rfl, rfl, Pst.pure (rel := Rel1 C.K) h R (.bl _)⟩
    | _ => exact h.elim
  | _ => exact h.elim
/-- flat things as values -/
def tv : D → V
  | .bl b => .bl b
  | .int i => .int i
  | .str x => .str x
  | _ => .non
def flatD : D → Bool
  | .non | .bl _ | .int _ | .str _ => true
  | _ => false
theorem tv_of {K : PySem.W.Frag} {ι : List Addr} {H : Hp} {v : V} {d : D} (r : Rp K ι H v d) (f : flatD d = true) : v = tv d ∧ flatV v = true := by
  cases r <;> first
    | exact ⟨rfl, rfl⟩
    | (simp only [flatD] at f; cases f)
theorem tvs_of {K : PySem.W.Frag} {ι : List Addr} {H : Hp} : ∀ {vs : List V} {ds : List D}, Rps K ι H vs ds → ds.all flatD = true → vs = ds.map tv ∧ vs.all flatV = true
  | _, _, .nil, _ => ⟨rfl, rfl⟩
  | _, _, .cons r t, f => by
    rw [List.all_cons, Bool.and_eq_true] at f
    obtain ⟨a1, a2⟩ := tv_of r f.1
    obtain ⟨b1, b2⟩ := tvs_of t f.2
    refine ⟨by rw [List.map_cons, ← a1, ← b1], ?_⟩
    rw [List.all_cons, a2, b2]
    rfl
def inD (neg : Bool) (a b : D) : M D := fun st => match seqOf st b with
  | some xs => okIf (flatD a && xs.all flatD) (.bl (if neg then !inV (tv a) (xs.map tv) else inV (tv a) (xs.map tv))) st
  | none => match dicOf st b, keyD a with
    | some kvs, some k => .ok (.bl (if neg then !(lookD kvs k).isSome else (lookD kvs k).isSome)) st
    | _, _ => .bad
def rInU (K : PySem.W.Frag) (neg : Bool) : R2 := fun x y H Q => rIn K neg x y H Q ∨ ∃ a o, y = .ref a ∧ DGet H a x o ∧ Q (.bl (if neg then !o.isSome else o.isSome)) H
theorem od_in {C : Ctx} {neg : Bool} : OpD C (rInU C.K neg) (inD neg) := by
  intro E ι H st x y a b Q R rx ry h
  unfold inD at h
  cases e1 : seqOf st b with
  | some xs =>
    simp only [e1] at h
    obtain ⟨c, h⟩ := okIf_cases h
    obtain ⟨c1, c2⟩ := Bool.and_eq_true_iff.mp c
    obtain ⟨p, vs, ex, q, r⟩ := seq_of R ry e1
    obtain ⟨a1, a2⟩ := tv_of rx c1
    obtain ⟨b1, b2⟩ := tvs_of r c2
    refine .inl ⟨p, vs, ex, q, a2, b2, ?_⟩
    rw [a1, b1]
    exact h.pure R (.bl _)
  | none =>
    simp only [e1] at h
    cases e2 : dicOf st b with
    | none => simp only [e2] at h; exact h.elim
    | some kvs =>
      cases e3 : keyD a with
      | none => simp only [e2, e3] at h; exact h.elim
      | some k =>
        simp only [e2, e3] at h
        obtain ⟨n, p, ps, _, ex, _, ep, r⟩ := dic_of R ry e2
        rw [key_of rx e3]
        refine .inr ⟨p, _, ex, DGet.k ep, ?_⟩
        have es : (valV ps k).isSome = (lookD kvs k).isSome := by
          cases e4 : lookD kvs k with
          | none => rw [(look_rel k r).2 e4]; rfl
          | some d =>
            obtain ⟨v, ev, _⟩ := (look_rel k r).1 d e4
            rw [ev]
            rfl
        rw [es]
        exact h.pure R (.bl _)
section
variable {X : Cx}
theorem op_eqU (hu : X.A.units + 64 < cLine) : OpR X (compareOp .Eq) (rEqU X.K false) := fun pins s σ H x y v u Q I rx ry h => op_eqD hu pins s σ H x y v u Q I rx ry h
theorem op_neU (hu : X.A.units + 64 < cLine) : OpR X (compareOp .NotEq) (rEqU X.K true) := fun pins s σ H x y v u Q I rx ry h => op_neD hu pins s σ H x y v u Q I rx ry h
theorem op_isU : OpR X (compareOp .Is) (rIsU false) := fun pins s σ H x y v u Q I rx ry h => by
  rcases h with ⟨e, q⟩ | ⟨a, b, e1, e2, q⟩
  · exact op_isN pins s σ H x y v u Q I rx ry ⟨e, by rw [Bool.false_xor] at q; exact q⟩
  · exact op_isBl pins s σ H x y v u Q I rx ry ⟨a, b, e1, e2, by rw [Bool.false_xor] at q; exact q⟩
theorem op_isNotU : OpR X (compareOp .IsNot) (rIsU true) := fun pins s σ H x y v u Q I rx ry h => by
  rcases h with ⟨e, q⟩ | ⟨a, b, e1, e2, q⟩
  · exact op_notN pins s σ H x y v u Q I rx ry ⟨e, by rw [Bool.true_xor] at q; exact q⟩
  · exact op_notBl pins s σ H x y v u Q I rx ry ⟨a, b, e1, e2, by rw [Bool.true_xor] at q; exact q⟩
theorem op_inU (hu : X.A.units + 1 < cLine) : OpR X (compareOp .In) (rInU X.K false) := fun pins s σ H x y v u Q I rx ry h => by
  rcases h with h | ⟨a, o, rfl, g, q⟩
  · exact op_in_seq pins s σ H x y v u Q I rx ry h
  · obtain rfl : u = Value.ref a := ry
    exact d_in hu I g rx fun s3 I3 => ⟨.bl o.isSome, H, I3, rfl, q⟩
theorem op_ninU (hu : X.A.units + 1 < cLine) : OpR X (compareOp .NotIn) (rInU X.K true) := fun pins s σ H x y v u Q I rx ry h => by
  rcases h with h | ⟨a, o, rfl, g, q⟩
  · exact op_notIn_seq pins s σ H x y v u Q I rx ry h
  · obtain rfl : u = Value.ref a := ry
    exact d_notIn hu I g rx fun s3 I3 => ⟨.bl (!o.isSome), H, I3, rfl, q⟩
end
end Mir

namespace Mir
open PySem PySem.Spec PyProof.Rows L2

/-! ### targets -/
inductive Tg where
  | name (i : Nat) | tup (ts : List Tg) | skip
mutual
def tgD : Tg → D → Env → Option Env
  | .name i, d, env => some (env.set i (some d))
  | .tup ts, .tup ds, env => tgDs ts ds env
  | _, _, _ => none
def tgDs : List Tg → List D → Env → Option Env
  | [], [], env => some env
  | t :: ts, d :: ds, env => match tgD t d env with
    | some env' => tgDs ts ds env'
    | none => none
  | _, _, _ => none
end
mutual
def slots : Tg → List Nat
  | .name i => [i]
  | .tup ts => slotss ts
  | .skip => []
def slotss : List Tg → List Nat
  | [] => []
  | t :: ts => slots t ++ slotss ts
end
/-- only the slots in vs may differ -/
def Off (vs : List Nat) (σ σ' : L2.St) : Prop := σ'.length = σ.length ∧ ∀ i, i ∉ vs → σ'[i]? = σ[i]?
theorem Off.refl (σ : L2.St) : Off [] σ σ := ⟨rfl, fun _ _ => rfl⟩
theorem Off.trans {vs ws : List Nat} {σ σ1 σ2 : L2.St} (a : Off vs σ σ1) (b : Off ws σ1 σ2) : Off (vs ++ ws) σ σ2 :=
  ⟨b.1.trans a.1, fun i h => by
    rw [List.mem_append] at h
    rw [b.2 i fun z => h (.inr z), a.2 i fun z => h (.inl z)]⟩
def rdG (C : Ctx) (t : Tg) : TG := fun v σ H Q => ∃ d env ι, Rp C.K ι H v d ∧ REnv C.K ι H σ env ∧ ∃ env', tgD t d env = some env' ∧ ∀ σ', REnv C.K ι H σ' env' → Off (slots t) σ σ' → Q σ' H
def rdGs (C : Ctx) (ts : List Tg) : TGs := fun vs σ H Q => ∃ ds env ι, Rps C.K ι H vs ds ∧ REnv C.K ι H σ env ∧ ∃ env', tgDs ts ds env = some env' ∧ ∀ σ', REnv C.K ι H σ' env' → Off (slotss ts) σ σ' → Q σ' H
section
variable {X : Cx} {C : Ctx} {pos : Pos}
theorem _root_.L2.PG.mono {e : Expr} {t t' : TG} (h : PG X e t) (m : ∀ v σ H Q, t' v σ H Q → t v σ H Q) : PG X e t' := ⟨fun pins s σ H v u Q I r q => h.run pins s σ H v u Q I r (m _ _ _ _ q)⟩
theorem _root_.L2.PGs.mono {e : List Expr} {t t' : TGs} (h : PGs X e t) (m : ∀ v σ H Q, t' v σ H Q → t v σ H Q) : PGs X e t' := ⟨fun pins s σ H v u Q I r q => h.run pins s σ H v u Q I r (m _ _ _ _ q)⟩
theorem g_name (i : Nat) {x : Str} (hN : X.N.Nodup) (hi : X.N[i]? = some x := by rfl) (hx : Loc X.env.scope x := by first | exact Or.inl rfl | exact Or.inr rfl) (hf : X.fn x = true ∨ X.env.scope.names.lookup x = some .local := by first | exact .inl rfl | exact .inr rfl) : PG X (.Name x pos) (rdG C (.name i)) :=
  (pg_name hN hi hx hf).mono fun v σ H Q ⟨d, env, ι, r, re, env', e, q⟩ => by
    simp only [tgD, Option.some.injEq] at e
    subst e
    refine q _ (re.set i r) ⟨List.length_set .., fun j hj => ?_⟩
    rw [List.getElem?_set_ne (by intro z; exact hj (by simp [slots, z]))]
theorem gs_nil : PGs X [] (rdGs C []) := pgs_nil.mono fun vs σ H Q ⟨ds, env, ι, r, re, env', e, q⟩ => by
  cases r with
  | nil =>
    simp only [tgDs, Option.some.injEq] at e
    subst e
    exact ⟨rfl, q σ re (Off.refl σ)⟩
  | cons r t => simp only [tgDs] at e; cases e
theorem gs_cons {e : Expr} {es : List Expr} {t : Tg} {ts : List Tg} (h1 : PG X e (rdG C t)) (h2 : PGs X es (rdGs C ts)) (hs : (assignEach (e :: es) X.env).map (·.2) = assign e X.env :: (assignEach es X.env).map (·.2) := by rfl) : PGs X (e :: es) (rdGs C (t :: ts)) :=
  (pgs_cons h1 h2 hs).mono fun vs σ H Q ⟨ds, env, ι, r, re, env', e, q⟩ => by
    cases r with
    | nil => simp only [tgDs] at e; cases e
    | @cons v vs d ds r rs =>
      cases e1 : tgD t d env with
      | none => simp only [tgDs, e1] at e; cases e
      | some env1 =>
        simp only [tgDs, e1] at e
        exact ⟨v, vs, rfl, d, env, ι, r, re, env1, e1, fun σ1 re1 o1 => ⟨ds, env1, ι, rs, re1, env', e, fun σ2 re2 o2 => q σ2 re2 (o1.trans o2)⟩⟩
theorem g_tup {es : List Expr} {k : Nat} {ts : List Tg} (hK : X.K = C.K) (hc : X.calm = true) (h : PGs X es (rdGs C ts)) (hn : (assignEach es X.env).length = ts.length := by rfl) (hst : (assignEach es X.env).findIdx? (·.1) = none := by rfl) : PG X (.Tuple es k pos) (rdG C (.tup ts)) :=
  (pg_tup hc h hn hst).mono fun v σ H Q ⟨d, env, ι, r, re, env', e, q⟩ => by
    cases r with
    | @tup a xs ds j rs =>
      simp only [tgD] at e
      have hlen : ∀ (ts : List Tg) (ds : List D) (env env' : Env), tgDs ts ds env = some env' → ds.length = ts.length := by
        intro ts
        induction ts with
        | nil => intro ds env env' h; cases ds with | nil => rfl | cons _ _ => simp only [tgDs] at h; cases h
        | cons t ts ih =>
          intro ds env env' h
          cases ds with
          | nil => simp only [tgDs] at h; cases h
          | cons d ds =>
            cases e1 : tgD t d env with
            | none => simp only [tgDs, e1] at h; cases h
            | some env1 => simp only [tgDs, e1] at h; rw [List.length_cons, List.length_cons, ih ds env1 env' h]
      rw [hK]
      exact ⟨a, xs, rfl, j.t, by rw [rs.length, hlen ts ds env env' e], ds, env, ι, rs, re, env', e, q⟩
    | _ => simp only [tgD] at e; cases e
end

/-! ### statements -/
inductive Fl where
  | nx | brk | cnt | ret (d : D)
inductive FlV where
  | nx (σ : L2.St) | brk (σ : L2.St) | cnt (σ : L2.St) | ret (v : V)
def RelFl (K : PySem.W.Frag) : List Addr → Hp → FlV → Fl × Env → Prop := fun ι H f g => match f, g with
  | .nx σ, (.nx, env) => REnv K ι H σ env
  | .brk σ, (.brk, env) => REnv K ι H σ env
  | .cnt σ, (.cnt, env) => REnv K ι H σ env
  | .ret v, (.ret d, _) => Rp K ι H v d
  | _, _ => False
def endQ (D : Ends) : FlV → Hp → Prop
  | .nx σ, H => D.nx σ H
  | .brk σ, H => D.bk σ H
  | .cnt σ, H => D.ct σ H
  | .ret v, H => D.rt v H
abbrev SM := Env → M (Fl × Env)
def rdS (C : Ctx) (E : XK) (m : SM) : TS := fun D σ H => ∃ env ι st, REnv C.K ι H σ env ∧ Rl C ι H st ∧ Pst C (RelFl C.K) E ι H (endQ D) (m env st)
def sNil : SM := fun env => pure (.nx, env)
def sSeq (a b : SM) : SM := fun env => a env >>= fun r => match r.1 with
  | .nx => b r.2
  | _ => pure r
def sSet (t : Tg) (a : Env → M D) : SM := fun env => a env >>= fun d => fun st => match tgD t d env with
  | some env' => .ok (.nx, env') st
  | none => .bad
def sExpr (a : Env → M D) : SM := fun env => a env >>= fun _ => pure (.nx, env)
def sRet (a : Env → M D) : SM := fun env => a env >>= fun d => pure (.ret d, env)
def sRetN : SM := fun env => pure (.ret .non, env)
def sIf (t : Env → M Bool) (a b : SM) : SM := fun env => t env >>= fun c => if c then a env else b env
def sBrk : SM := fun env => pure (.brk, env)
def sCnt : SM := fun env => pure (.cnt, env)
def sPar (i j : Nat) (a b : Env → M D) : SM := fun env => a env >>= fun x => b env >>= fun y => pure (.nx, (env.set i (some x)).set j (some y))
section
variable {X : Cx} {C : Ctx} {E : XK} {e c : Expr} {s : Stmt} {rest : List Stmt} {pos : Pos} {ma mb : Env → M D} {m1 m2 : SM} {mt : Env → M Bool}
theorem s_nil : PSs X [] (rdS C E sNil) := pss_nil.mono fun D σ H ⟨env, ι, st, re, R, q⟩ => Pst.pure (rel := RelFl C.K) (b := .nx σ) q R re
theorem rd_seq {D : Ends} {σ : L2.St} {H : Hp} (q : rdS C E (sSeq m1 m2) D σ H) : tSeq (rdS C E m1) (rdS C E m2) D σ H := by
  obtain ⟨env, ι, st, re, R, q⟩ := q
  refine ⟨env, ι, st, re, R, (Pst.bind (rel := RelFl C.K) q).mono ?_⟩
  rintro f H1 ⟨⟨g, env1⟩, ι1, st1, s1, R1, r1, q1⟩
  cases f <;> cases g <;> first
    | exact r1.elim
    | exact ⟨env1, ι1, st1, r1, R1, q1⟩
    | exact (Pst.pure (rel := RelFl C.K) (Q := endQ D) (b := .brk _) q1 R1 r1 : D.bk _ _)
    | exact (Pst.pure (rel := RelFl C.K) (Q := endQ D) (b := .cnt _) q1 R1 r1 : D.ct _ _)
    | exact (Pst.pure (rel := RelFl C.K) (Q := endQ D) (b := .ret _) q1 R1 r1 : D.rt _ _)
theorem s_cons (h1 : PS X s (rdS C E m1)) (h2 : PSs X rest (rdS C E m2)) : PSs X (s :: rest) (rdS C E (sSeq m1 m2)) := (pss_cons h1 h2).mono fun _ _ _ => rd_seq
theorem s_one (h1 : PS X s (rdS C E m1)) : PSs X [s] (rdS C E m1) := pss_one h1
theorem s_pass : PS X (.Pass pos) (rdS C E sNil) := ps_pass.mono fun D σ H ⟨env, ι, st, re, R, q⟩ => Pst.pure (rel := RelFl C.K) (b := .nx σ) q R re
theorem s_break : PS X (.Break pos) (rdS C E sBrk) := ps_break.mono fun D σ H ⟨env, ι, st, re, R, q⟩ => Pst.pure (rel := RelFl C.K) (b := .brk σ) q R re
theorem s_continue : PS X (.Continue pos) (rdS C E sCnt) := ps_continue.mono fun D σ H ⟨env, ι, st, re, R, q⟩ => Pst.pure (rel := RelFl C.K) (b := .cnt σ) q R re
theorem s_expr (he : PE X e (rdE C E ma)) (hs : swapsWith e none pos.line X.env = pure false := by rfl) : PS X (.Expr e pos) (rdS C E (sExpr ma)) :=
  (ps_expr he hs).mono fun D σ H ⟨env, ι, st, re, R, q⟩ => ⟨env, ι, st, re, R, (Pst.bind (rel := Rel1 C.K) q).mono fun x H1 ⟨d, ι1, st1, s1, R1, r1, q1⟩ => Pst.pure (rel := RelFl C.K) (b := .nx σ) q1 R1 (re.step s1)⟩
theorem s_ret (he : PE X e (rdE C E ma)) : PS X (.Return (some e) pos) (rdS C E (sRet ma)) :=
  (ps_ret he).mono fun D σ H ⟨env, ι, st, re, R, q⟩ => ⟨env, ι, st, re, R, (Pst.bind (rel := Rel1 C.K) q).mono fun x H1 ⟨d, ι1, st1, s1, R1, r1, q1⟩ => Pst.pure (rel := RelFl C.K) (b := .ret x) q1 R1 r1⟩
theorem s_retN : PS X (.Return none pos) (rdS C E sRetN) := ps_retN.mono fun D σ H ⟨env, ι, st, re, R, q⟩ => Pst.pure (rel := RelFl C.K) (b := .ret .non) q R .non
theorem s_if {a b : List Stmt} (hc : PT X c (rdT C E mt)) (ha : PSs X a (rdS C E m1)) (hb : PSs X b (rdS C E m2)) : PS X (.If c a b pos) (rdS C E (sIf mt m1 m2)) :=
  (ps_if hc ha hb).mono fun D σ H ⟨env, ι, st, re, R, q⟩ => ⟨env, ι, st, re, R, (Pst.bind (rel := RelB) q).mono fun x H1 ⟨d, ι1, st1, s1, R1, r1, q1⟩ => by
    obtain rfl : x = d := r1
    cases x with
    | true => exact ⟨env, ι1, st1, re.step s1, R1, q1⟩
    | false => exact ⟨env, ι1, st1, re.step s1, R1, q1⟩⟩
theorem rd_set {t : Tg} {D : Ends} {σ : L2.St} {H : Hp} (q : rdS C E (sSet t ma) D σ H) : tAsg (rdE C E ma) (rdG C t) D σ H := by
  obtain ⟨env, ι, st, re, R, q⟩ := q
  refine ⟨env, ι, st, re, R, (Pst.bind (rel := Rel1 C.K) q).mono ?_⟩
  rintro x H1 ⟨d, ι1, st1, s1, R1, r1, q1⟩
  cases e1 : tgD t d env with
  | none => simp only [e1] at q1; exact q1.elim
  | some env' =>
    simp only [e1] at q1
    exact ⟨d, env, ι1, r1, re.step s1, env', e1, fun σ' re' _ => Pst.pure (rel := RelFl C.K) (b := .nx σ') q1 R1 re'⟩
theorem s_asg {tg : Expr} {t : Tg} (he : PE X e (rdE C E ma)) (hg : PG X tg (rdG C t)) (hs : swapsWithSole [tg] e pos.line X.env = pure false := by rfl) (hw : swappedStores [tg] e X.env = pure none := by rfl) (h1 : (assignEach [tg] X.env).map (·.2) = [assign tg X.env] := by rfl) : PS X (.Assign [tg] e pos) (rdS C E (sSet t ma)) :=
  (ps_asg he hg hs hw h1).mono fun _ _ _ => rd_set
theorem s_set (i : Nat) {x : Str} {pos' : Pos} (hN : X.N.Nodup) (he : PE X e (rdE C E ma)) (hi : X.N[i]? = some x := by rfl) (hx : Loc X.env.scope x := by first | exact Or.inl rfl | exact Or.inr rfl)
    (hs : swapsWith e (some (.Name x pos')) pos.line X.env = pure false := by rfl) (hf : X.fn x = true ∨ X.env.scope.names.lookup x = some .local := by first | exact .inl rfl | exact .inr rfl) : PS X (.Assign [.Name x pos'] e pos) (rdS C E (sSet (.name i) ma)) :=
  (ps_set hN hi hx he hs hf).mono fun D σ H ⟨env, ι, st, re, R, q⟩ => ⟨env, ι, st, re, R, (Pst.bind (rel := Rel1 C.K) q).mono fun x H1 ⟨d, ι1, st1, s1, R1, r1, q1⟩ => by
    simp only [tgD] at q1
    exact Pst.pure (rel := RelFl C.K) (b := .nx _) q1 R1 ((re.step s1).set i r1)⟩
end

/-! ### a def's promise -/
def spM (C : Ctx) (n : Nat) (m : List D → M D) : Sp := fun vs H Q E => ∃ ds ι st, Rps C.K ι H vs ds ∧ ds.length = n ∧ Rl C ι H st ∧ Pst C (Rel1 C.K) E ι H Q (m ds st)
def outF (r : Fl × Env) : M D := match r.1 with
  | .ret d => pure d
  | .nx => pure .non
  | _ => bad
/-- a def's mirror from its body's: n slots -/
def runB (n : Nat) (b : SM) (ds : List D) : M D := b (ds.map some ++ List.replicate (n - ds.length) none) >>= outF
theorem renv_start {K : PySem.W.Frag} {ι : List Addr} {H : Hp} {N : List Str} : ∀ {vs : List V} {ds : List D}, Rps K ι H vs ds → REnv K ι H (L2.start N vs) (ds.map some ++ List.replicate (N.length - ds.length) none) := fun {vs ds} r => by
  have hl := r.length
  unfold L2.start
  refine ⟨by simp [hl], fun i d h => ?_⟩
  by_cases hi : i < ds.length
  · rw [List.getElem?_append_left (by simpa using hi), List.getElem?_map] at h
    have h' : ds[i]? = some d := by
      cases q : ds[i]? with
      | none => rw [q] at h; cases h
      | some x => rw [q] at h; simpa using h
    obtain ⟨v, h1, h2⟩ := r.get h'
    refine ⟨v, ?_, h2⟩
    rw [List.getElem?_append_left (by simp [hl, hi]), List.getElem?_map, h1]
    rfl
  · rw [List.getElem?_append_right (by simpa using hi)] at h
    have := List.mem_of_getElem? h
    rw [List.mem_replicate] at this
    cases this.2
/-- what a body may lean on -/
structure Cap (X : Cx) (C : Ctx) (E : XK) (k : Nat) : Prop where
  hK : X.K = C.K
  calm : X.calm = true
  room : Room k X.A
  nd : X.N.Nodup
  pass : Passes (L2.CX X.prog X.w) X E
theorem Cap.u1 {X : Cx} {C : Ctx} {E : XK} {k : Nat} (c : Cap X C E k) : X.A.units + 1 < cLine := hu_of c.room
theorem Cap.u64 {X : Cx} {C : Ctx} {E : XK} {k : Nat} (c : Cap X C E k) : X.A.units + 64 < cLine := c.room.units
section
variable {P : Program} {w : World} {K : PySem.W.Frag} {mg : Str → Option Value} {base : Heap}
abbrev bodyCx (P : Program) (w : World) (K : PySem.W.Frag) (mg : Str → Option Value) (base : Heap) (N : List Str) (qual : Str) (st : Stmt) (f : Addr) (cdv : Value) (A : Around) (outer : List PySem.Env) (s : Shared) (H : Hp) (E : XK) : Cx :=
  cxOf (L2.CX P w) P w K mg base N qual (defScope st) f cdv A outer s H E
theorem fn_mir {x qual : Str} {st : Stmt} {f : Addr} {fd : FuncData} {N ps : List Str} {k : Nat} (C : Ctx) (hK : C.K = K) (F : Fun K x qual st f fd) (S : FnScope N ps (defScope st)) {b : SM}
    (hb : ∀ (cdv : Value) (A : Around) (outer : List PySem.Env) (s : Shared) (H : Hp) (E : XK), Cap (bodyCx P w K mg base N qual st f cdv A outer s H E) C E k →
      PassesOwn (model P w) (bodyCx P w K mg base N qual st f cdv A outer s H E).A (bodyCx P w K mg base N qual st f cdv A outer s H E).env (bodyCx P w K mg base N qual st f cdv A outer s H E).xe →
      PSs (bodyCx P w K mg base N qual st f cdv A outer s H E) (defBody st) (rdS C E b)) : FnOk P w K mg base (L2.CX P w) (k + 1) f fd ps (spM C ps.length (runB N.length b)) := by
  refine F.okX S (fun vs H Q E h => ?_) fun cdv A outer s H vs Q E hr h => ?_
  · obtain ⟨ds, ι, st, r, e, _⟩ := h
    rw [r.length, e]
  · have tk : Takes (bodyCx P w K mg base N qual st f cdv A outer s H E) (fun cls d _ H' => E cls d H') := takes_of rfl rfl rfl rfl
    refine ⟨_, hb cdv A outer s H E ⟨hK.symm, rfl, hr, S.nd, passes_call tk fun _ _ _ _ z => z⟩ (passes_of rfl), ?_⟩
    obtain ⟨ds, ι, st, r, e, R, q⟩ := h
    refine ⟨_, ι, st, renv_start r, R, (Pst.bind (rel := RelFl C.K) q).mono ?_⟩
    rintro g H1 ⟨⟨t, env1⟩, ι1, st1, s1, R1, r1, q1⟩
    cases g <;> cases t <;> first
      | exact r1.elim
      | exact q1.elim
      | exact Pst.pure (rel := Rel1 C.K) q1 R1 .non
      | exact Pst.pure (rel := Rel1 C.K) q1 R1 r1
end
/-! ### a call of a def -/
def eCall (n : Nat) (m : List D → M D) (dflt : List D) (a : Env → M (List D)) : Env → M D := fun env => a env >>= fun ds => if (ds ++ dflt).length = n then m (ds ++ dflt) else bad
section
variable {X : Cx} {C : Ctx} {E : XK} {k j n : Nat} {x : Str} {p pos : Pos} {e : Expr} {es : List Expr} {f : Addr} {fd : FuncData} {ps : List Str} {m : List D → M D} {dvs : List V} {dus : List Value} {dflt : List D} {mr : Env → M (List D)}
theorem w_call (c : Cap X C E k) (F : FnOk X.prog X.w X.K X.mg X.base (L2.CX X.prog X.w) j f fd ps (spM C n m)) (hj : j ≤ k) (hm : X.mg x = some (.ref f)) (hk : PySem.W.keepIn X.K (.ref f) = true) (hb : Binds X.K fd ps dus) (hd : Vals dvs dus) (hdd : ∀ ι H, Rps C.K ι H dvs dflt)
    (ha : PA X (e :: es) (rdA C E mr)) (hg : Gl X x := by rfl) (hdb : (x == ("__debug__" : Str)) = false := by decide) (he : starEach (e :: es) X.env = (false, eval e X.env) :: starEach es X.env := by rfl) (hpl : (backTo pos (starEach es X.env)).any (·.1) = false := by rfl) :
    PE X (.Call (.Name x p) (e :: es) [] pos) (rdE C E (eCall n m dflt mr)) :=
  (pe_call F (c.room.mono hj) hg hm hk hb hd c.pass ha hdb he hpl).mono fun σ H Q ⟨env, ι, st, re, R, q⟩ => ⟨env, ι, st, re, R, (Pst.bind (rel := RelA C.K) q).mono fun vs H1 ⟨ds, ι1, st1, s1, R1, r1, q1⟩ => by
    replace q1 : Pst C (Rel1 C.K) E ι1 H1 Q ((if (ds ++ dflt).length = n then m (ds ++ dflt) else bad : M D) st1) := q1
    by_cases hl : (ds ++ dflt).length = n
    · rw [if_pos hl] at q1
      exact ⟨ds ++ dflt, ι1, st1, Rps.append r1 (hdd ι1 H1), hl, R1, q1⟩
    · rw [if_neg hl] at q1
      exact q1.elim⟩
end
end Mir

namespace Mir
open PySem PySem.Spec PyProof.Rows L2

/-! ### what is walked -/
abbrev Src := List D × (Sto → Prop)
/-- the iterator gives the items while the source's word holds of the store -/
def ItOk (C : Ctx) (ι0 : List Addr) (H0 : Hp) (J : It) (src : Src) : Prop := ∀ (ι : List Addr) (H : Hp) (st : Sto) (i : Nat), Stp ι0 H0 ι H → Rl C ι H st → src.2 st →
  (i = src.1.length → J.stop i H) ∧ ∀ d, src.1[i]? = some d → J.go i H ∧ ∀ x H', J.yld i H x H' → Stp ι H ι H' ∧ Rl C ι H' st ∧ Rp C.K ι H' x d
theorem ItOk.step {C : Ctx} {ι0 ι1 : List Addr} {H0 H1 : Hp} {J : It} {src : Src} (h : ItOk C ι0 H0 J src) (s : Stp ι0 H0 ι1 H1) : ItOk C ι1 H1 J src := fun ι H st i t => h ι H st i (s.trans t)
def RelIt (C : Ctx) : List Addr → Hp → It → Src → Prop := fun ι H J src => ItOk C ι H J src
def rdI (C : Ctx) (E : XK) (m : Env → M Src) : TI := fun σ H R => ∃ env ι st, REnv C.K ι H σ env ∧ Rl C ι H st ∧ Pst C (RelIt C) E ι H R (m env st)
theorem _root_.L2.PI.mono {X : Cx} {tg it : Expr} {t t' : TI} (h : PI X tg it t) (m : ∀ σ H R, t' σ H R → t σ H R) : PI X tg it t' := ⟨fun pins s σ H R I q => h.run pins s σ H R I (m _ _ _ q)⟩

noncomputable def ckM (p : Sto → Prop) : M Unit := fun st => @ite _ (p st) (Classical.propDecidable _) (.ok () st) .bad
theorem ckM_pos {p : Sto → Prop} {st : Sto} (h : p st) : ckM p st = .ok () st := if_pos h
theorem ckM_bind {C : Ctx} {γ δ : Type} {rel2 : List Addr → Hp → δ → γ → Prop} {E : XK} {ι : List Addr} {H : Hp} {Q : δ → Hp → Prop} {st : Sto} {p : Sto → Prop} {f : Unit → M γ}
    (h : Pst C rel2 E ι H Q ((ckM p >>= f) st)) : p st ∧ Pst C rel2 E ι H Q (f () st) := by
  rw [bind_def] at h
  by_cases hp : p st
  · rw [ckM_pos hp] at h
    exact ⟨hp, h⟩
  · unfold ckM at h
    rw [if_neg hp] at h
    exact h.elim

/-- a list or a tuple, walked -/
def seqSrc (d : D) : M Src := fun st => match seqOf st d with
  | some xs => .ok (xs, fun st' => seqOf st' d = some xs) st
  | none => .bad
def itSeq (a : Env → M D) : Env → M Src := fun env => a env >>= seqSrc
section
variable {X : Cx} {C : Ctx} {E : XK} {a b : Expr} {p pos : Pos} {ma mb : Env → M D} {mr : Env → M (List D)} {tg : Expr}
def iSeq (K : PySem.W.Frag) (tl : TE) : TI := fun σ H R => tl σ H fun x H1 => ∃ a, x = .ref a ∧ (((∃ xs, SqL K H1 a xs) ∧ R (Itl K a) H1) ∨ ((∃ xs, SqT K H1 a xs) ∧ R (Itt K a) H1))
theorem pi_seq {l : Expr} {tl : TE} (hl : PE X l tl) : PI X tg l (iSeq X.K tl) := by
  refine ⟨fun pins s σ H R I h => ?_⟩
  refine thn (hl.run pins s σ H _ I h) fun v s1 ⟨x, H1, I1, r1, q1⟩ => ?_
  obtain ⟨a, rfl, q1⟩ := q1
  cases r1
  have fp : ∀ b ∈ [s1.heap.objs.size], FpOk X pins H1 b := fun b hb => by
    rw [List.mem_singleton] at hb
    rw [hb]
    exact I1.fpOk (Nat.le_refl _) I1.fresh
  rcases q1 with ⟨⟨xs, hq⟩, q⟩ | ⟨⟨xs, hq⟩, q⟩
  · obtain ⟨its, _, pl, _⟩ := I1.list hq
    exact wpAny_pyIter_list pl.isList ⟨s1.heap.objs.size, [s1.heap.objs.size], _, _, H1, rfl, I1.kept (t' := s1.toks) fun b o e => Heap.get?_push_of_some _ e, turn_list a _, ⟨_, Heap.get?_push_size _ rfl, rfl, rfl⟩, fp, q⟩
  · obtain ⟨its, _, pl, _⟩ := I1.tuple hq
    exact wpAny_pyIter_tuple (show s1.heap.IsTuple a its.toArray from pl) ⟨s1.heap.objs.size, [s1.heap.objs.size], _, _, H1, rfl, I1.kept (t' := s1.toks) fun b o e => Heap.get?_push_of_some _ e, turn_tuple a _, ⟨_, Heap.get?_push_size _ rfl, rfl, rfl⟩, fp, q⟩
/-- what is at an address as a list, as a tuple, is one list of values -/
theorem rps_none {K : PySem.W.Frag} {ι : List Addr} {H : Hp} {vs : List V} {ds : List D} {i : Nat} (r : Rps K ι H vs ds) (h : i = ds.length) : vs.length ≤ i := by
  rw [r.length, h]
  exact Nat.le_refl _
theorem it_seq {ι0 : List Addr} {H0 : Hp} {st0 : Sto} {x : V} {d : D} {ds : List D} {R : It → Hp → Prop} {ι : List Addr} {H : Hp} (Rl0 : Rl C ι H st0) (r : Rp C.K ι H x d) (e : seqOf st0 d = some ds)
    (q : ∀ J, ItOk C ι H J (ds, fun st' => seqOf st' d = some ds) → R J H) : ∃ a, x = .ref a ∧ (((∃ xs, SqL C.K H a xs) ∧ R (Itl C.K a) H) ∨ ((∃ xs, SqT C.K H a xs) ∧ R (Itt C.K a) H)) := by
  obtain ⟨a, vs, ex, hq, rs⟩ := seq_of Rl0 r e
  refine ⟨a, ex, ?_⟩
  by_cases ht : ∃ ys, d = .tup ys
  · obtain ⟨ys, rfl⟩ := ht
    cases r with
    | @tup a' xs ds' j rs' =>
      cases ex
      simp only [seqOf, Option.some.injEq] at e
      subst e
      refine .inr ⟨⟨xs, j.t⟩, q _ fun ι1 H1 st1 i s R1 _ => ⟨fun hn => ⟨xs, (j.step s).t, rps_none rs' hn⟩, fun d hd => ?_⟩⟩
      obtain ⟨v, hv, rv⟩ := rs'.get hd
      refine ⟨⟨xs, v, (j.step s).t, hv⟩, fun y H' hy => ?_⟩
      obtain ⟨rfl, hy2⟩ := hy
      have ev := hy2 xs (j.step s).t
      rw [hv] at ev
      cases ev
      exact ⟨Stp.refl _ _, R1, rv.step s⟩
  · have hsl : ∀ st1, seqOf st1 d = lstOf st1 d := fun st1 => by
      cases d <;> first | rfl | exact absurd ⟨_, rfl⟩ ht
    have hl : ∀ {ι1 : List Addr} {H1 : Hp} {st1 : Sto}, Stp ι H ι1 H1 → Rl C ι1 H1 st1 → seqOf st1 d = some ds → ∃ ws, Rd H1 a (.lst ws) ∧ Rps C.K ι1 H1 ws ds := fun {ι1 H1 st1} s R1 e1 => by
      obtain ⟨a2, ws, ex2, hq2, rs2⟩ := lst_of R1 (r.step s) ((hsl st1).symm.trans e1)
      rw [ex] at ex2
      cases ex2
      exact ⟨ws, hq2, rs2⟩
    obtain ⟨ws0, hw0, _⟩ := hl (Stp.refl _ _) Rl0 e
    refine .inl ⟨⟨ws0, .inl hw0⟩, q _ fun ι1 H1 st1 i s R1 e1 => ?_⟩
    obtain ⟨ws, hw, rw'⟩ := hl s R1 e1
    refine ⟨fun hn => ⟨ws, .inl hw, rps_none rw' hn⟩, fun d hd => ?_⟩
    obtain ⟨v, hv, rv⟩ := rw'.get hd
    refine ⟨⟨ws, v, .inl hw, hv⟩, fun y H' hy => ?_⟩
    obtain ⟨rfl, hy2⟩ := hy
    have ev := hy2 ws (.inl hw)
    rw [hv] at ev
    cases ev
    exact ⟨Stp.refl _ _, R1, rv⟩
theorem i_seq (hK : X.K = C.K) (ha : PE X a (rdE C E ma)) : PI X tg a (rdI C E (itSeq ma)) :=
  (pi_seq ha).mono fun σ H R ⟨env, ι, st, re, Rl0, q⟩ => ⟨env, ι, st, re, Rl0, (Pst.bind (rel := Rel1 C.K) q).mono fun x H1 ⟨d, ι1, st1, s1, R1, r1, q1⟩ => by
    replace q1 : Pst C (RelIt C) E ι1 H1 R (seqSrc d st1) := q1
    unfold seqSrc at q1
    cases e : seqOf st1 d with
    | none => simp only [e] at q1; exact q1.elim
    | some xs =>
      simp only [e] at q1
      rw [hK]
      exact it_seq (ι0 := ι1) (H0 := H1) R1 r1 e fun J hJ => Pst.pure (rel := RelIt C) q1 R1 hJ⟩
/-- range(n), range(m, n) -/
def rngL (lo hi : Int) : List D := (List.range (hi - lo).toNat).map fun i => .int (lo + (i : Nat))
def rngOk (i : Int) : Bool := decide (-(2 ^ 62) ≤ i ∧ i < 2 ^ 62)
def rng1D (d : D) : M Src := fun st => match d with
  | .int n => if rngOk n then .ok (rngL 0 n, fun _ => True) st else .bad
  | _ => .bad
def rng2D (c d : D) : M Src := fun st => match c, d with
  | .int m, .int n => if rngOk m && rngOk n then .ok (rngL m n, fun _ => True) st else .bad
  | _, _ => .bad
def itR1 (a : Env → M D) : Env → M Src := fun env => a env >>= rng1D
def itR2 (a b : Env → M D) : Env → M Src := fun env => a env >>= fun x => b env >>= fun y => rng2D x y
theorem it_rng {ι : List Addr} {H : Hp} (lo hi : Int) : ItOk C ι H (Itr lo (hi - lo).toNat) (rngL lo hi, fun _ => True) := fun ι1 H1 st1 i s R1 _ => by
  refine ⟨fun hn => ?_, fun d hd => ?_⟩
  · have h : i = (rngL lo hi).length := hn
    unfold rngL at h
    rw [List.length_map, List.length_range] at h
    exact Nat.le_of_eq h.symm
  · have h := (List.getElem?_eq_some_iff.mp hd).1
    unfold rngL at h hd
    rw [List.length_map, List.length_range] at h
    refine ⟨h, fun x H' hy => ?_⟩
    obtain ⟨rfl, rfl⟩ := hy
    rw [List.getElem?_map, List.getElem?_range h] at hd
    cases hd
    exact ⟨Stp.refl _ _, R1, .int _⟩
theorem i_rng1 (ha : PE X a (rdE C E ma)) (hm : X.mg "range" = none) (hg : Gl X "range" := by rfl) (hs : starEach [a] X.env = [(false, eval a X.env)] := by rfl) (hs' : starEach [a] X.env = (false, eval a X.env) :: starEach [] X.env := by rfl) : PI X tg (.Call (.Name "range" p) [a] [] pos) (rdI C E (itR1 ma)) :=
  (pi_range1 hg hm (pa_cons ha pa_nil hs') hs).mono fun σ H R ⟨env, ι, st, re, Rl0, q⟩ => ⟨env, ι, st, re, Rl0, (Pst.bind (rel := Rel1 C.K) q).mono fun v H1 ⟨d, ι1, st1, s1, R1, r1, q1⟩ => by
    cases r1 with
    | int n =>
      cases c : rngOk n with
      | false => simp only [rng1D, c] at q1; exact q1.elim
      | true =>
        simp only [rng1D, c, if_true] at q1
        have hb : -(2 ^ 62) ≤ n ∧ n < 2 ^ 62 := of_decide_eq_true c
        have hI := it_rng (C := C) (ι := ι1) (H := H1) 0 n
        rw [Int.sub_zero] at hI
        exact ⟨n, rfl, hb.1, hb.2, Pst.pure (rel := RelIt C) q1 R1 hI⟩
    | _ => exact q1.elim⟩
theorem i_rng2 (ha : PE X a (rdE C E ma)) (hb : PE X b (rdE C E mb)) (hm : X.mg "range" = none) (hg : Gl X "range" := by rfl) (hs : starEach [a, b] X.env = [(false, eval a X.env), (false, eval b X.env)] := by rfl) (hs2 : starEach [b] X.env = [(false, eval b X.env)] := by rfl)
    (hs3 : starEach [a, b] X.env = (false, eval a X.env) :: starEach [b] X.env := by rfl) (hs4 : starEach [b] X.env = (false, eval b X.env) :: starEach [] X.env := by rfl) : PI X tg (.Call (.Name "range" p) [a, b] [] pos) (rdI C E (itR2 ma mb)) :=
  (pi_range2 hg hm (pa_cons ha (pa_cons hb pa_nil hs4) hs3) hs hs2).mono fun σ H R ⟨env, ι, st, re, Rl0, q⟩ => ⟨env, ι, st, re, Rl0, (Pst.bind (rel := Rel1 C.K) q).mono fun v H1 ⟨d, ι1, st1, s1, R1, r1, q1⟩ =>
    ⟨env, ι1, st1, re.step s1, R1, (Pst.bind (rel := Rel1 C.K) q1).mono fun u H2 ⟨d2, ι2, st2, s2, R2, r2, q2⟩ => by
      cases r1 with
      | int m =>
        cases r2 with
        | int n =>
          cases c : rngOk m && rngOk n with
          | false => simp only [rng2D, c] at q2; exact q2.elim
          | true =>
            simp only [rng2D, c, if_true] at q2
            obtain ⟨c1, c2⟩ := Bool.and_eq_true_iff.mp c
            have hm : -(2 ^ 62) ≤ m ∧ m < 2 ^ 62 := of_decide_eq_true c1
            have hn : -(2 ^ 62) ≤ n ∧ n < 2 ^ 62 := of_decide_eq_true c2
            exact ⟨m, n, rfl, ⟨hm.1, hm.2, hn.1, hn.2⟩, Pst.pure (rel := RelIt C) q2 R2 (it_rng m n)⟩
        | _ => exact q2.elim
      | _ => first | exact q2.elim | (cases r2 <;> exact q2.elim)⟩⟩
end

/-! ### for -/
noncomputable def forL (body : D → SM) (ck : Sto → Prop) : List D → SM
  | [] => fun env => ckM ck >>= fun _ => pure (.nx, env)
  | d :: ds => fun env => ckM ck >>= fun _ => body d env >>= fun r => match r.1 with
    | .nx => forL body ck ds r.2
    | .cnt => forL body ck ds r.2
    | .brk => pure (.nx, r.2)
    | .ret _ => pure r
def inTg (t : Tg) (b : SM) (d : D) : SM := fun env => fun st => match tgD t d env with
  | some env' => b env' st
  | none => .bad
noncomputable def sFor (it : Env → M Src) (t : Tg) (b : SM) : SM := fun env => it env >>= fun src => forL (inTg t b) src.2 src.1 env
section
variable {X : Cx} {C : Ctx} {E : XK} {iter tg : Expr} {body : List Stmt} {pos : Pos} {mi : Env → M Src} {mb : SM} {t : Tg}
theorem rd_for {D : Ends} {σ : L2.St} {H : Hp} (q : rdS C E (sFor mi t mb) D σ H) : tFor (rdI C E mi) (rdG C t) (rdS C E mb) D σ H := by
  obtain ⟨env, ι, st, re, R, q⟩ := q
  refine ⟨env, ι, st, re, R, (Pst.bind (rel := RelIt C) q).mono ?_⟩
  rintro J H1 ⟨src, ι1, st1, s1, R1, hJ, q1⟩
  refine ⟨fun i m σ' H' => ∃ env' ι' st', REnv C.K ι' H' σ' env' ∧ Rl C ι' H' st' ∧ Stp ι1 H1 ι' H' ∧ m = src.1.length - i ∧ i ≤ src.1.length ∧ Pst C (RelFl C.K) E ι' H' (endQ D) (forL (inTg t mb) src.2 (src.1.drop i) env' st'),
    ⟨_, env, ι1, st1, re.step s1, R1, Stp.refl _ _, rfl, Nat.zero_le _, q1⟩, ?_⟩
  rintro i m σ2 H2 ⟨env2, ι2, st2, re2, R2, s2, hm, hi, q2⟩
  by_cases hl : i < src.1.length
  · have hd : src.1[i]? = some src.1[i] := List.getElem?_eq_getElem hl
    rw [List.drop_eq_getElem_cons hl] at q2
    obtain ⟨hck, q3⟩ := ckM_bind q2
    obtain ⟨hgo, hy⟩ := (hJ ι2 H2 st2 i s2 R2 hck).2 _ hd
    refine .inr ⟨hgo, fun σ' H' => ∃ env' ι' st', REnv C.K ι' H' σ' env' ∧ Rl C ι' H' st' ∧ Stp ι1 H1 ι' H' ∧ Pst C (RelFl C.K) E ι' H' (endQ D) (forL (inTg t mb) src.2 (src.1.drop (i + 1)) env' st'), ?_, ?_⟩
    · rintro σ' H' ⟨env', ι', st', r1, r2, r3, r4⟩
      exact ⟨src.1.length - (i + 1), by omega, env', ι', st', r1, r2, r3, rfl, hl, r4⟩
    · intro x H3 y3
      obtain ⟨s3, R3, r3⟩ := hy x H3 y3
      have q4 := Pst.step q3 s3
      have q5 := Pst.bind (rel := RelFl C.K) q4
      cases e1 : tgD t src.1[i] env2 with
      | none =>
        simp only [inTg, e1] at q5
        exact q5.elim
      | some env3 =>
        simp only [inTg, e1] at q5
        refine ⟨src.1[i], env2, ι2, r3, re2.step s3, env3, e1, fun σ3 re3 _ => ⟨env3, ι2, st2, re3, R3, q5.mono ?_⟩⟩
        rintro f H4 ⟨⟨g, env4⟩, ι4, st4, s4, R4, r4, q6⟩
        cases f <;> cases g <;> first
          | exact r4.elim
          | exact ⟨env4, ι4, st4, r4, R4, s2.trans (s3.trans s4), q6⟩
          | exact (Pst.pure (rel := RelFl C.K) (Q := endQ D) (b := .nx _) q6 R4 r4 : D.nx _ _)
          | exact (Pst.pure (rel := RelFl C.K) (Q := endQ D) (b := .ret _) q6 R4 r4 : D.rt _ _)
  · have he : i = src.1.length := by omega
    subst he
    rw [List.drop_length] at q2
    obtain ⟨hck, q3⟩ := ckM_bind q2
    exact .inl ⟨(hJ ι2 H2 st2 _ s2 R2 hck).1 rfl, (Pst.pure (rel := RelFl C.K) (Q := endQ D) (b := .nx _) q3 R2 re2 : D.nx _ _)⟩
theorem s_for (hp : PassesOwn (model X.prog X.w) X.A X.env X.xe) (hc : X.calm = true) (hi : PI X tg iter (rdI C E mi)) (hg : PG X tg (rdG C t)) (hb : PSs X body (rdS C E mb)) (hs : ∀ x, foldedSetIterable iter X.env x = pure x := by intro _; rfl) :
    PS X (.For tg iter body [] pos) (rdS C E (sFor mi t mb)) := (ps_for hp hc hi hg hb hs).mono fun _ _ _ => rd_for
end

/-! ### while -/
def whN (c : Env → M Bool) (b : SM) : Nat → SM
  | 0 => fun _ => bad
  | n + 1 => fun env => c env >>= fun t => if t then (b env >>= fun r => match r.1 with
    | .nx => whN c b n r.2
    | .cnt => whN c b n r.2
    | .brk => pure (.nx, r.2)
    | .ret _ => pure r) else pure (.nx, env)
/-- runs if some number of turns is enough -/
noncomputable def sWhile (c : Env → M Bool) (b : SM) : SM := fun env st => @dite _ (∃ n, whN c b n env st ≠ .bad) (Classical.propDecidable _) (fun h => whN c b (Classical.choose h) env st) fun _ => .bad
section
variable {X : Cx} {C : Ctx} {E : XK} {c : Expr} {body : List Stmt} {pos : Pos} {mc : Env → M Bool} {mb : SM}
theorem rd_while {D : Ends} {σ : L2.St} {H : Hp} (q : rdS C E (sWhile mc mb) D σ H) : tWhile (rdT C E mc) (rdS C E mb) D σ H := by
  obtain ⟨env, ι, st, re, R, q⟩ := q
  obtain ⟨n, qn⟩ : ∃ n, Pst C (RelFl C.K) E ι H (endQ D) (whN mc mb n env st) := by
    unfold sWhile at q
    split at q
    · exact ⟨_, q⟩
    · exact q.elim
  refine ⟨fun m σ' H' => ∃ env' ι' st', REnv C.K ι' H' σ' env' ∧ Rl C ι' H' st' ∧ Pst C (RelFl C.K) E ι' H' (endQ D) (whN mc mb m env' st'), ⟨n, env, ι, st, re, R, qn⟩, ?_⟩
  rintro m σ2 H2 ⟨env2, ι2, st2, re2, R2, q2⟩
  cases m with
  | zero => exact q2.elim
  | succ m =>
    refine ⟨env2, ι2, st2, re2, R2, (Pst.bind (rel := RelB) q2).mono ?_⟩
    rintro b H3 ⟨b', ι3, st3, s3, R3, e3, q3⟩
    obtain rfl : b = b' := e3
    cases b with
    | true =>
      refine ⟨fun σ' H' => ∃ env' ι' st', REnv C.K ι' H' σ' env' ∧ Rl C ι' H' st' ∧ Pst C (RelFl C.K) E ι' H' (endQ D) (whN mc mb m env' st'), fun σ' H' h => ⟨m, Nat.lt_succ_self m, h⟩, env2, ι3, st3, re2.step s3, R3, (Pst.bind (rel := RelFl C.K) q3).mono ?_⟩
      rintro f H4 ⟨⟨g, env4⟩, ι4, st4, s4, R4, r4, q6⟩
      cases f <;> cases g <;> first
        | exact r4.elim
        | exact ⟨env4, ι4, st4, r4, R4, q6⟩
        | exact (Pst.pure (rel := RelFl C.K) (Q := endQ D) (b := .nx _) q6 R4 r4 : D.nx _ _)
        | exact (Pst.pure (rel := RelFl C.K) (Q := endQ D) (b := .ret _) q6 R4 r4 : D.rt _ _)
    | false => exact (Pst.pure (rel := RelFl C.K) (Q := endQ D) (b := .nx _) q3 R3 (re2.step s3) : D.nx _ _)
theorem s_while (hp : PassesOwn (model X.prog X.w) X.A X.env X.xe) (hc : PT X c (rdT C E mc)) (hb : PSs X body (rdS C E mb)) : PS X (.While c body [] pos) (rdS C E (sWhile mc mb)) := (ps_while hp hc hb).mono fun _ _ _ => rd_while
end
end Mir

namespace Mir
open PySem PySem.Spec PyProof.Rows L2

/-! ### list comprehensions -/
def noX {α : Type} (m : M α) : M α := fun st => match m st with
  | .exc _ _ => .bad
  | r => r
theorem noX_pst {α β : Type} {C : Ctx} {rel : List Addr → Hp → β → α → Prop} {E E' : XK} {ι : List Addr} {H : Hp} {Q : β → Hp → Prop} {m : M α} {st : Sto} (h : Pst C rel E ι H Q (noX m st)) : Pst C rel E' ι H Q (m st) := by
  unfold noX at h
  cases e : m st with
  | ok a st' => rw [e] at h; exact h
  | exc x st' => rw [e] at h; exact h.elim
  | bad => rw [e] at h; exact h.elim
def appO (n : Nat) (y : D) : M Unit := fun st => match st[n]? with
  | some (.lst acc) => if szOk (acc.length + 1) then .ok () (st.set n (.lst (acc ++ [y]))) else .bad
  | _ => .bad
def wipeE (env : Env) : List Nat → Env
  | [] => env
  | v :: vs => (wipeE env vs).set v none
noncomputable def lcGo (n : Nat) (t : Tg) (mt : Env → M Bool) (me : Env → M D) (env : Env) (ck : Sto → Prop) : List D → M D
  | [] => ckM ck >>= fun _ => pure (.obj n)
  | d :: ds => ckM ck >>= fun _ => fun st => match tgD t d env with
    | some env1 => (mt env1 >>= fun c => if c then (me env1 >>= fun y => appO n y >>= fun _ => lcGo n t mt me env ck ds) else lcGo n t mt me env ck ds) st
    | none => .bad
noncomputable def eLC (it : Env → M Src) (t : Tg) (mt : Env → M Bool) (me : Env → M D) (vs : List Nat) : Env → M D := fun env => it env >>= fun src => fun st => noX (lcGo st.length t mt me (wipeE env vs) src.2 src.1) (st ++ [.lst []])
theorem wipe_in {σ : L2.St} {i : Nat} : ∀ {vs : List Nat}, i ∈ vs → i < σ.length → (wipe σ vs)[i]? = some none
  | v :: vs, h, hl => by
    unfold wipe
    by_cases e : v = i
    · subst e
      rw [List.getElem?_set_self (by rw [wipe_length]; exact hl)]
    · rw [List.getElem?_set_ne e]
      rcases List.mem_cons.mp h with z | z
      · exact absurd z.symm e
      · exact wipe_in z hl
theorem wipe_off {σ σ' : L2.St} {vs ws : List Nat} (h : Off ws (wipe σ vs) σ') (hs : ∀ i ∈ ws, i ∈ vs) : wipe σ' vs = wipe σ vs := by
  have hl : σ'.length = σ.length := by rw [h.1, wipe_length]
  refine List.ext_getElem? fun i => ?_
  by_cases hi : i ∈ vs
  · by_cases hz : i < σ.length
    · rw [wipe_in hi hz, wipe_in hi (by rw [hl]; exact hz)]
    · rw [List.getElem?_eq_none (by rw [wipe_length, hl]; omega), List.getElem?_eq_none (by rw [wipe_length]; omega)]
  · rw [wipe_out hi, h.2 i fun z => hi (hs i z)]
theorem wipeE_len (env : Env) : ∀ vs : List Nat, (wipeE env vs).length = env.length
  | [] => rfl
  | v :: vs => by unfold wipeE; rw [List.length_set, wipeE_len env vs]
theorem renv_wipe {K : PySem.W.Frag} {ι : List Addr} {H : Hp} {σ : L2.St} {env : Env} (r : REnv K ι H σ env) : ∀ vs : List Nat, REnv K ι H (wipe σ vs) (wipeE env vs)
  | [] => r
  | v :: vs => by
    have ih := renv_wipe r vs
    unfold wipe wipeE
    refine ⟨by rw [List.length_set, List.length_set, ih.len], fun i d h => ?_⟩
    by_cases e : v = i
    · subst e
      have hl := (List.getElem?_eq_some_iff.mp h).1
      rw [List.length_set] at hl
      rw [List.getElem?_set_self hl] at h
      cases h
    · rw [List.getElem?_set_ne e] at h ⊢
      exact ih.at' i d h
section
variable {X : Cx} {C : Ctx} {E : XK} {k : Nat}
theorem Cap.blk (c : Cap X C E k) (s : Shared) (H : Hp) (scope : Scope) (cenv : PySem.Env) (fp : List Addr) : Cap (X.blk s H scope cenv fp) C E0 k := ⟨c.hK, c.calm, c.room, c.nd, passL⟩
theorem ts_nil : PTs X [] (rdT C E fun _ => pure true) := ⟨fun pins s σ H Q I ⟨env, ι, st, re, R, q⟩ => (pts_nil (X := X)).run pins s σ H Q I (Pst.pure (rel := RelB) q R rfl)⟩
theorem ts_one {c : Expr} {mt : Env → M Bool} (h : PT X c (rdT C E mt)) : PTs X [c] (rdT C E mt) := pts_one h
variable {mi : Env → M Src} {t : Tg} {mt : Env → M Bool} {me : Env → M D} {vs : List Nat}
theorem rd_lc (hs : ∀ i ∈ slots t, i ∈ vs) {σ : L2.St} {H : Hp} {Q : VK} (q : rdE C E (eLC mi t mt me vs) σ H Q) : tLc (rdI C E mi) (rdG C t) (rdT C E0 mt) (rdE C E0 me) vs σ H Q := by
  obtain ⟨env, ι, st, re, R, q⟩ := q
  refine ⟨env, ι, st, re, R, (Pst.bind (rel := RelIt C) q).mono ?_⟩
  rintro J H1 ⟨src, ι1, st1, s1, R1, hJ, q1⟩ p np
  have q2 : Pst C (Rel1 C.K) E0 ι1 H1 Q (lcGo st1.length t mt me (wipeE env vs) src.2 src.1 (st1 ++ [.lst []])) := noX_pst q1
  have sA := Stp.alloc (ι := ι1) (o := .lst []) np
  have RA : Rl C (ι1 ++ [p]) (upd H1 p (.lst [])) (st1 ++ [.lst []]) := R1.alloc np fun H' s' e => ⟨[], e, .nil⟩
  have pA : (ι1 ++ [p])[st1.length]? = some p := by
    rw [← R1.len, List.getElem?_append_right (Nat.le_refl _), Nat.sub_self]
    rfl
  refine ⟨fun i m H' => ∃ ι' st', Rl C ι' H' st' ∧ Stp (ι1 ++ [p]) (upd H1 p (.lst [])) ι' H' ∧ m = src.1.length - i ∧ i ≤ src.1.length ∧ Pst C (Rel1 C.K) E0 ι' H' Q (lcGo st1.length t mt me (wipeE env vs) src.2 (src.1.drop i) st'),
    ⟨_, _, _, RA, Stp.refl _ _, rfl, Nat.zero_le _, Pst.step q2 sA⟩, ?_⟩
  rintro i m H2 ⟨ι2, st2, R2, s2, hm, hi, q3⟩
  by_cases hl : i < src.1.length
  · have hd : src.1[i]? = some src.1[i] := List.getElem?_eq_getElem hl
    rw [List.drop_eq_getElem_cons hl] at q3
    obtain ⟨hck, q4⟩ := ckM_bind q3
    obtain ⟨hgo, hy⟩ := (hJ ι2 H2 st2 i (sA.trans s2) R2 hck).2 _ hd
    refine .inr ⟨hgo, fun H' => ∃ ι' st', Rl C ι' H' st' ∧ Stp (ι1 ++ [p]) (upd H1 p (.lst [])) ι' H' ∧ Pst C (Rel1 C.K) E0 ι' H' Q (lcGo st1.length t mt me (wipeE env vs) src.2 (src.1.drop (i + 1)) st'), ?_, ?_⟩
    · rintro H' ⟨ι', st', r1, r2, r3⟩
      exact ⟨src.1.length - (i + 1), by omega, ι', st', r1, r2, rfl, hl, r3⟩
    · intro x H3 y3
      obtain ⟨s3, R3, r3⟩ := hy x H3 y3
      cases e1 : tgD t src.1[i] (wipeE env vs) with
      | none => simp only [e1] at q4; exact q4.elim
      | some env1 =>
        simp only [e1] at q4
        have q5 := Pst.bind (rel := RelB) (Pst.step q4 s3)
        refine ⟨src.1[i], wipeE env vs, ι2, r3, renv_wipe (re.step (s1.trans (sA.trans (s2.trans s3)))) vs, env1, e1, fun σ' re' off => ⟨wipe_off off hs, env1, ι2, st2, re', R3, q5.mono ?_⟩⟩
        rintro b H4 ⟨b', ι4, st4, s4, R4, e4, q6⟩
        obtain rfl : b = b' := e4
        cases b with
        | false => exact ⟨ι4, st4, R4, s2.trans (s3.trans s4), q6⟩
        | true =>
          refine ⟨env1, ι4, st4, re'.step s4, R4, (Pst.bind (rel := Rel1 C.K) q6).mono ?_⟩
          rintro y H5 ⟨dy, ι5, st5, s5, R5, r5, q7⟩
          have s25 := s2.trans (s3.trans (s4.trans s5))
          have hp := s25.get pA
          replace q7 : Pst C (Rel1 C.K) E0 ι5 H5 Q (Res.andThen (appO st1.length dy st5) fun _ => lcGo st1.length t mt me (wipeE env vs) src.2 (src.1.drop (i + 1))) := q7
          cases e5 : st5[st1.length]? with
          | none => simp only [appO, e5, Res.andThen] at q7; exact q7.elim
          | some o =>
            cases o with
            | dic _ => simp only [appO, e5, Res.andThen] at q7; exact q7.elim
            | ins _ _ => simp only [appO, e5, Res.andThen] at q7; exact q7.elim
            | lst acc =>
              cases e6 : szOk (acc.length + 1) with
              | false => simp only [appO, e5, e6, Res.andThen] at q7; exact q7.elim
              | true =>
                simp only [appO, e5, e6, if_true, Res.andThen] at q7
                obtain ⟨xs, hx, rx⟩ := R5.at' _ _ _ e5 hp
                have hz : acc.length + 1 ≤ sizeLine := of_decide_eq_true e6
                have sP : Stp ι5 H5 ι5 (upd H5 p (.lst (xs ++ [y]))) := Stp.put (List.mem_of_getElem? hp)
                refine ⟨xs, hx, by rw [rx.length]; exact hz, ι5, _, R5.put (ob := .lst (acc ++ [dy])) hp (fun s' => ⟨_, upd_same, (rx.append (.cons r5 .nil)).step s'⟩), s25.trans sP, Pst.step q7 sP⟩
  · have he : i = src.1.length := by omega
    subst he
    rw [List.drop_length] at q3
    obtain ⟨hck, q4⟩ := ckM_bind q3
    exact .inl ⟨(hJ ι2 H2 st2 _ (sA.trans s2) R2 hck).1 rfl, Pst.pure (rel := Rel1 C.K) q4 R2 (.obj (s2.get pA))⟩
variable {elt tg iter : Expr} {ifs : List Expr} {scope : Scope} {own : List (Str × Nat)} {pos spos : Pos}
theorem w_lc (c : Cap X C E k) (hi : PI X tg iter (rdI C E mi)) (ok : BlkOk X.N X.env.scope scope own)
    (hg : ∀ (s : Shared) (H : Hp) (B : Addr) (cl : List (Str × Addr)) (fp : List Addr), PG (X.blk s H scope (compEnvC scope cl B X.env) fp) tg (rdG C t))
    (ht : ∀ (s : Shared) (H : Hp) (B : Addr) (cl : List (Str × Addr)) (fp : List Addr), PTs (X.blk s H scope (compEnvC scope cl B X.env) fp) ifs (rdT C E0 mt))
    (he : ∀ (s : Shared) (H : Hp) (B : Addr) (cl : List (Str × Addr)) (fp : List Addr), PE (X.blk s H scope (compEnvC scope cl B X.env) fp) elt (rdE C E0 me))
    (hs : ∀ i ∈ slots t, i ∈ own.map (·.2) := by decide) (hf : ∀ x, foldedSetIterable iter X.env x = pure x := by intro _; rfl) : PE X (.ListComp elt [⟨tg, iter, ifs, 0⟩] scope pos) (rdE C E (eLC mi t mt me (own.map (·.2)))) :=
  (pe_lc c.calm c.nd hi ok hg ht he hf).mono fun _ _ _ => rd_lc hs
theorem s_setLC (c : Cap X C E k) (i : Nat) {y : Str} {py : Pos} (hi : PI X tg iter (rdI C E mi)) (ok : BlkOk X.N X.env.scope scope own)
    (hg : ∀ (s : Shared) (H : Hp) (B : Addr) (cl : List (Str × Addr)) (fp : List Addr), PG (X.blk s H scope (compEnvC scope cl B X.env) fp) tg (rdG C t))
    (ht : ∀ (s : Shared) (H : Hp) (B : Addr) (cl : List (Str × Addr)) (fp : List Addr), PTs (X.blk s H scope (compEnvC scope cl B X.env) fp) ifs (rdT C E0 mt))
    (he : ∀ (s : Shared) (H : Hp) (B : Addr) (cl : List (Str × Addr)) (fp : List Addr), PE (X.blk s H scope (compEnvC scope cl B X.env) fp) elt (rdE C E0 me))
    (hsw : swapsWith (.ListComp elt [⟨tg, iter, ifs, 0⟩] scope pos) (some (.Name y py)) spos.line X.env = pure true)
    (hy : X.N[i]? = some y := by rfl) (hyl : X.env.scope.names.lookup y = some .local := by rfl) 
    (hs : ∀ i ∈ slots t, i ∈ own.map (·.2) := by decide) (hf : ∀ x, foldedSetIterable iter X.env x = pure x := by intro _; rfl) :
    PS X (.Assign [.Name y py] (.ListComp elt [⟨tg, iter, ifs, 0⟩] scope pos) spos) (rdS C E (sSet (.name i) (eLC mi t mt me (own.map (·.2))))) :=
  (ps_setLc c.calm c.nd hy hyl hsw hi ok hg ht he hf).mono fun D σ H ⟨env, ι, st, re, R, q⟩ => by
    have h0 : rdE C E (eLC mi t mt me (own.map (·.2))) σ H (fun x H1 => gName i x σ H1 D.nx) := ⟨env, ι, st, re, R, (Pst.bind (rel := Rel1 C.K) q).mono fun x H1 ⟨d, ι1, st1, s1, R1, r1, q1⟩ => by
      simp only [tgD] at q1
      exact (Pst.pure (rel := RelFl C.K) (Q := endQ D) (b := .nx _) q1 R1 ((re.step s1).set i r1) : D.nx _ _)⟩
    exact rd_lc hs h0
end
end Mir

namespace Mir
open PySem PySem.Spec PyProof.Rows L2

/-! ### built-in functions -/
def CallD (C : Ctx) (r : List V → Hp → VK → Prop) (f : List D → M D) : Prop := ∀ (E : XK) (ι : List Addr) (H : Hp) (st : Sto) (vs : List V) (ds : List D) (Q : VK), Rl C ι H st → Rps C.K ι H vs ds → Pst C (Rel1 C.K) E ι H Q (f ds st) → r vs H Q
def eFn (f : List D → M D) (a : Env → M (List D)) : Env → M D := fun env => a env >>= f
/-- a function of one argument -/
def fn1 (f : D → M D) : List D → M D
  | [d] => f d
  | _ => bad
def fn2 (f : D → D → M D) : List D → M D
  | [d, e] => f d e
  | _ => bad
section
variable {X : Cx} {C : Ctx} {E : XK} {x : Str} {p pos : Pos} {e : Expr} {es : List Expr} {mr : Env → M (List D)} {id T : String} {r : List V → Hp → VK → Prop} {f : List D → M D}
theorem rd_fn (h : CallD C r f) {σ : L2.St} {H : Hp} {Q : VK} (q : rdE C E (eFn f mr) σ H Q) : tCB r (rdA C E mr) σ H Q := by
  obtain ⟨env, ι, st, re, R, q⟩ := q
  exact ⟨env, ι, st, re, R, (Pst.bind (rel := RelA C.K) q).mono fun vs H1 ⟨ds, ι1, st1, s1, R1, r1, q1⟩ => h E ι1 H1 st1 vs ds Q R1 r1 q1⟩
theorem w_callB (hc : CallR X (.builtin id) r) (h : CallD C r f) (hm : X.mg x = none) (hv : bootBuiltins x = some (.builtin id)) (ha : PA X (e :: es) (rdA C E mr)) (hg : Gl X x := by rfl) (hn : x ≠ "__name__" := by decide) (hdb : (x == ("__debug__" : Str)) = false := by decide)
    (he : starEach (e :: es) X.env = (false, eval e X.env) :: starEach es X.env := by rfl) (hpl : (backTo pos (starEach es X.env)).any (·.1) = false := by rfl) : PE X (.Call (.Name x p) (e :: es) [] pos) (rdE C E (eFn f mr)) :=
  (pe_callB hc hg hm hv ha hn hdb he hpl).mono fun _ _ _ => rd_fn h
theorem w_callT (hc : CallR X (.type T) r) (h : CallD C r f) (hm : X.mg x = none) (hv : bootBuiltins x = some (.type T)) (ha : PA X (e :: es) (rdA C E mr)) (hg : Gl X x := by rfl) (hn : x ≠ "__name__" := by decide) (hdb : (x == ("__debug__" : Str)) = false := by decide)
    (he : starEach (e :: es) X.env = (false, eval e X.env) :: starEach es X.env := by rfl) (hpl : (backTo pos (starEach es X.env)).any (·.1) = false := by rfl) : PE X (.Call (.Name x p) (e :: es) [] pos) (rdE C E (eFn f mr)) :=
  (pe_callTy hc hg hm hv ha hn hdb he hpl).mono fun _ _ _ => rd_fn h
end
section
variable {X : Cx} {C : Ctx}
theorem cd1 {r : List V → Hp → VK → Prop} {f : D → M D} (h : ∀ (E : XK) (ι : List Addr) (H : Hp) (st : Sto) (v : V) (d : D) (Q : VK), Rl C ι H st → Rp C.K ι H v d → Pst C (Rel1 C.K) E ι H Q (f d st) → r [v] H Q) : CallD C r (fn1 f) := by
  intro E ι H st vs ds Q R rs q
  cases rs with
  | nil => exact q.elim
  | cons r1 rs =>
    cases rs with
    | nil => exact h E ι H st _ _ Q R r1 q
    | cons _ _ => exact q.elim
theorem cd2 {r : List V → Hp → VK → Prop} {f : D → D → M D} (h : ∀ (E : XK) (ι : List Addr) (H : Hp) (st : Sto) (v u : V) (d e : D) (Q : VK), Rl C ι H st → Rp C.K ι H v d → Rp C.K ι H u e → Pst C (Rel1 C.K) E ι H Q (f d e st) → r [v, u] H Q) : CallD C r (fn2 f) := by
  intro E ι H st vs ds Q R rs q
  cases rs with
  | nil => exact q.elim
  | cons r1 rs =>
    cases rs with
    | nil => exact q.elim
    | cons r2 rs =>
      cases rs with
      | nil => exact h E ι H st _ _ _ _ Q R r1 r2 q
      | cons _ _ => exact q.elim
/-- len -/
def lenD (d : D) : M D := fun st => match seqOf st d with
  | some xs => .ok (.int xs.length) st
  | none => match dicOf st d with
    | some kvs => .ok (.int kvs.length) st
    | none => match d with
      | .str x => okIf (szOk x.length) (.int x.length) st
      | _ => .bad
def rLenU (K : PySem.W.Frag) : List V → Hp → VK → Prop := fun xs H Q => (∃ x n, xs = [x] ∧ LenV K x H n ∧ Q (.int n) H) ∨ ∃ a kvs, xs = [V.ref a] ∧ H a = some (.dK kvs) ∧ Q (.int kvs.length) H
theorem cr_len : CallR X (.builtin "len") (rLenU X.K) := call_len.or call_lenD
theorem Rkv.length {K : PySem.W.Frag} {ι : List Addr} {H : Hp} : ∀ {a : List (Key × V)} {b : List (Key × D)}, Rkv K ι H a b → a.length = b.length
  | _, _, .nil => rfl
  | _, _, .cons _ t => congrArg (· + 1) (Rkv.length t)
theorem cd_len : CallD C (rLenU C.K) (fn1 lenD) := cd1 fun E ι H st v d Q R r q => by
  unfold lenD at q
  cases e1 : seqOf st d with
  | some xs =>
    simp only [e1] at q
    obtain ⟨a, vs, rfl, hq, rs⟩ := seq_of R r e1
    have hl := rs.length
    refine .inl ⟨.ref a, xs.length, rfl, ?_, q.pure R (.int _)⟩
    rcases hq with hq | hq
    · exact .inl ⟨vs, hq, hl.symm⟩
    · exact .inr ⟨vs, hq, hl.symm⟩
  | none =>
    simp only [e1] at q
    cases e2 : dicOf st d with
    | some kvs =>
      simp only [e2] at q
      obtain ⟨n, a, ps, _, ex, _, ep, rk⟩ := dic_of R r e2
      refine .inr ⟨a, ps, by rw [ex], ep, ?_⟩
      rw [rk.length]
      exact q.pure R (.int _)
    | none =>
      simp only [e2] at q
      cases r with
      | str x =>
        obtain ⟨c, q⟩ := okIf_cases q
        exact .inl ⟨.str x, x.length, rfl, ⟨of_decide_eq_true c, rfl⟩, q.pure R (.int _)⟩
      | _ => exact q.elim
/-- tuple(x), list(x) -/
def tupleD (d : D) : M D := fun st => match seqOf st d with
  | some xs => .ok (.tup xs) st
  | none => .bad
def srcOf (st : Sto) : D → Option (List D)
  | .scr ns => some (ns.map .int)
  | d => seqOf st d
theorem src_of {C : Ctx} {ι : List Addr} {H : Hp} {st : Sto} {x : V} {d : D} {ds : List D} (R : Rl C ι H st) (r : Rp C.K ι H x d) (h : srcOf st d = some ds) : ∃ a xs, x = .ref a ∧ (SqL C.K H a xs ∨ SqT C.K H a xs) ∧ Rps C.K ι H xs ds := by
  cases d with
  | scr ns =>
    cases r with
    | scr q =>
      simp only [srcOf, Option.some.injEq] at h
      subst h
      exact ⟨_, _, rfl, .inl q.l, Rps.of_ints ns⟩
  | _ => exact seq_of R r (show seqOf st _ = some ds from h)
def listD (d : D) : M D := fun st => match srcOf st d with
  | some xs => .ok (.lst xs) st
  | none => .bad
def listN (d : D) : M D := fun st => match srcOf st d with
  | some xs => allocD (.lst xs) st
  | none => .bad
def rTupC (K : PySem.W.Frag) : List V → Hp → VK → Prop := fun xs H Q => ∃ p ys, xs = [.ref p] ∧ ((SqL K H p ys ∧ ∀ l, H l = none → Q (.ref l) (upd H l (.tup ys))) ∨ (SqT K H p ys ∧ Q (.ref p) H))
def rLstC (K : PySem.W.Frag) : List V → Hp → VK → Prop := fun xs H Q => ∃ p ys, xs = [.ref p] ∧ (SqL K H p ys ∨ SqT K H p ys) ∧ ∀ l, H l = none → Q (.ref l) (upd H l (.lst ys))
theorem cr_tuple : CallR X (.type "tuple") (rTupC X.K) := call_tuple_of
theorem cr_list : CallR X (.type "list") (rLstC X.K) := call_list_of
theorem cd_tuple : CallD C (rTupC C.K) (fn1 tupleD) := cd1 fun E ι H st v d Q R r q => by
  unfold tupleD at q
  cases e1 : seqOf st d with
  | none => simp only [e1] at q; exact q.elim
  | some xs =>
    simp only [e1] at q
    cases d with
    | tup ys =>
      cases r with
      | tup j rs =>
        simp only [seqOf, Option.some.injEq] at e1
        subst e1
        exact ⟨_, _, rfl, .inr ⟨j.t, q.pure R (.tup j rs)⟩⟩
    | _ =>
      obtain ⟨a, vs, ex, hq, rs⟩ := lst_of R r (show lstOf st _ = some xs from e1)
      exact ⟨a, vs, by rw [ex], .inl ⟨.inl hq, fun l nl => new_tup R rs q nl⟩⟩
theorem cd_list : CallD C (rLstC C.K) (fn1 listD) := cd1 fun E ι H st v d Q R r q => by
  unfold listD at q
  cases e1 : srcOf st d with
  | none => simp only [e1] at q; exact q.elim
  | some xs =>
    simp only [e1] at q
    obtain ⟨a, vs, ex, hq, rs⟩ := src_of R r e1
    exact ⟨a, vs, by rw [ex], hq, fun l nl => new_lst R rs q nl⟩
theorem cd_listN : CallD C (rLstC C.K) (fn1 listN) := cd1 fun E ι H st v d Q R r q => by
  unfold listN at q
  cases e1 : srcOf st d with
  | none => simp only [e1] at q; exact q.elim
  | some xs =>
    simp only [e1] at q
    obtain ⟨a, vs, ex, hq, rs⟩ := src_of R r e1
    exact ⟨a, vs, by rw [ex], hq, fun l nl => new_obj R rs q nl⟩
/-- lists of ints, of truths -/
def asInts : List D → Option (List Int)
  | [] => some []
  | .int i :: r => (asInts r).map (i :: ·)
  | _ => none
def asBls : List D → Option (List Bool)
  | [] => some []
  | .bl i :: r => (asBls r).map (i :: ·)
  | _ => none
theorem asInts_of : ∀ {ds : List D} {ns : List Int}, asInts ds = some ns → ds = ns.map D.int
  | [], ns, h => by simp only [asInts, Option.some.injEq] at h; subst h; rfl
  | d :: r, ns, h => by
    cases d <;> try (simp only [asInts] at h; cases h)
    rename_i i
    cases e : asInts r with
    | none => simp only [asInts, e, Option.map_none] at h; cases h
    | some ms =>
      simp only [asInts, e, Option.map_some, Option.some.injEq] at h
      subst h
      rw [asInts_of e]
      rfl
theorem asBls_of : ∀ {ds : List D} {ns : List Bool}, asBls ds = some ns → ds = ns.map D.bl
  | [], ns, h => by simp only [asBls, Option.some.injEq] at h; subst h; rfl
  | d :: r, ns, h => by
    cases d <;> try (simp only [asBls] at h; cases h)
    rename_i i
    cases e : asBls r with
    | none => simp only [asBls, e, Option.map_none] at h; cases h
    | some ms =>
      simp only [asBls, e, Option.map_some, Option.some.injEq] at h
      subst h
      rw [asBls_of e]
      rfl
theorem asInts_map : ∀ ns : List Int, asInts (ns.map D.int) = some ns
  | [] => rfl
  | n :: ns => by
    show (asInts (ns.map D.int)).map (n :: ·) = _
    rw [asInts_map ns]
    rfl
theorem asBls_map : ∀ ns : List Bool, asBls (ns.map D.bl) = some ns
  | [] => rfl
  | n :: ns => by
    show (asBls (ns.map D.bl)).map (n :: ·) = _
    rw [asBls_map ns]
    rfl
def intsF (g : List Int → D) (d : D) : M D := fun st => match lstOf st d with
  | some xs => match asInts xs with
    | some ns => .ok (g ns) st
    | none => .bad
  | none => .bad
def blsF (g : List Bool → D) (d : D) : M D := fun st => match lstOf st d with
  | some xs => match asBls xs with
    | some ns => .ok (g ns) st
    | none => .bad
  | none => .bad
def sumD : D → M D := intsF fun ns => .int ns.sum
def allD : D → M D := blsF fun bs => .bl (bs.all id)
def anyD : D → M D := blsF fun bs => .bl (bs.any id)
theorem ints_of {E : XK} {ι : List Addr} {H : Hp} {st : Sto} {v : V} {d : D} {Q : VK} {g : List Int → D} (R : Rl C ι H st) (r : Rp C.K ι H v d) (q : Pst C (Rel1 C.K) E ι H Q (intsF g d st)) :
    ∃ a ns, v = .ref a ∧ SqL C.K H a (ns.map V.int) ∧ Pst C (Rel1 C.K) E ι H Q (.ok (g ns) st) := by
  unfold intsF at q
  cases e1 : lstOf st d with
  | none => simp only [e1] at q; exact q.elim
  | some xs =>
    cases e2 : asInts xs with
    | none => simp only [e1, e2] at q; exact q.elim
    | some ns =>
      simp only [e1, e2] at q
      obtain ⟨a, vs, ex, hq, rs⟩ := lst_of R r e1
      rw [asInts_of e2] at rs
      rw [rs.ints] at hq
      exact ⟨a, ns, ex, .inl hq, q⟩
theorem bls_of {E : XK} {ι : List Addr} {H : Hp} {st : Sto} {v : V} {d : D} {Q : VK} {g : List Bool → D} (R : Rl C ι H st) (r : Rp C.K ι H v d) (q : Pst C (Rel1 C.K) E ι H Q (blsF g d st)) :
    ∃ a ns, v = .ref a ∧ SqL C.K H a (ns.map V.bl) ∧ Pst C (Rel1 C.K) E ι H Q (.ok (g ns) st) := by
  unfold blsF at q
  cases e1 : lstOf st d with
  | none => simp only [e1] at q; exact q.elim
  | some xs =>
    cases e2 : asBls xs with
    | none => simp only [e1, e2] at q; exact q.elim
    | some ns =>
      simp only [e1, e2] at q
      obtain ⟨a, vs, ex, hq, rs⟩ := lst_of R r e1
      rw [asBls_of e2] at rs
      rw [rs.bls] at hq
      exact ⟨a, ns, ex, .inl hq, q⟩
theorem cd_sum : CallD C (rSum C.K) (fn1 sumD) := cd1 fun E ι H st v d Q R r q => by
  obtain ⟨a, ns, ex, hq, q⟩ := ints_of R r q
  exact ⟨a, ns, by rw [ex], hq, q.pure R (.int _)⟩
theorem cd_all : CallD C (rAll C.K) (fn1 allD) := cd1 fun E ι H st v d Q R r q => by
  obtain ⟨a, ns, ex, hq, q⟩ := bls_of R r q
  exact ⟨a, ns, by rw [ex], hq, q.pure R (.bl _)⟩
theorem cd_any : CallD C (rAny C.K) (fn1 anyD) := cd1 fun E ι H st v d Q R r q => by
  obtain ⟨a, ns, ex, hq, q⟩ := bls_of R r q
  exact ⟨a, ns, by rw [ex], hq, q.pure R (.bl _)⟩
/-- sorted, ints -/
def insI (n : Int) : List Int → List Int
  | [] => [n]
  | m :: r => if n ≤ m then n :: m :: r else m :: insI n r
def sortI : List Int → List Int
  | [] => []
  | n :: r => insI n (sortI r)
theorem insI_perm (n : Int) : ∀ l : List Int, (insI n l).Perm (n :: l)
  | [] => .refl _
  | m :: r => by
    unfold insI
    split
    · exact .refl _
    · exact ((insI_perm n r).cons m).trans (.swap n m r)
theorem sortI_perm : ∀ l : List Int, (sortI l).Perm l
  | [] => .refl _
  | n :: r => (insI_perm n (sortI r)).trans ((sortI_perm r).cons n)
theorem insI_pw (n : Int) : ∀ l : List Int, l.Pairwise (· ≤ ·) → (insI n l).Pairwise (· ≤ ·)
  | [], _ => List.pairwise_singleton _ _
  | m :: r, h => by
    have h1 := List.pairwise_cons.mp h
    unfold insI
    split
    · rename_i hn
      exact List.pairwise_cons.mpr ⟨fun a ha => by
        rcases List.mem_cons.mp ha with z | z
        · rw [z]; exact hn
        · exact Int.le_trans hn (h1.1 a z), h⟩
    · rename_i hn
      refine List.pairwise_cons.mpr ⟨fun a ha => ?_, insI_pw n r h1.2⟩
      rcases List.mem_cons.mp ((insI_perm n r).mem_iff.mp ha) with z | z
      · rw [z]; omega
      · exact h1.1 a z
theorem sortI_pw : ∀ l : List Int, (sortI l).Pairwise (· ≤ ·)
  | [] => .nil
  | n :: r => insI_pw n _ (sortI_pw r)
theorem sortI_unique {l l' : List Int} (p : l'.Perm l) (s : l'.Pairwise (· ≤ ·)) : l' = sortI l :=
  List.Perm.eq_of_pairwise (fun a b _ _ h1 h2 => Int.le_antisymm h1 h2) s (sortI_pw l) (p.trans (sortI_perm l).symm)
def sortedD : D → M D := intsF fun ns => .lst ((sortI ns).map .int)
theorem cd_sorted : CallD C (rSortedI C.K) (fn1 sortedD) := cd1 fun E ι H st v d Q R r q => by
  obtain ⟨a, ns, ex, hq, q⟩ := ints_of R r q
  refine ⟨a, ns, by rw [ex], hq, fun ns' p pm so np => ?_⟩
  rw [sortI_unique pm so]
  exact new_lst R (Rps.of_ints _) q np
/-- abs, max, min, int, bool -/
def absD (d : D) : M D := fun st => match d with
  | .int i => .ok (.int (if i < 0 then -i else i)) st
  | _ => .bad
def maxD (a b : D) : M D := fun st => match a, b with
  | .int i, .int j => .ok (.int (if j > i then j else i)) st
  | _, _ => .bad
def minD (a b : D) : M D := fun st => match a, b with
  | .int i, .int j => .ok (.int (if j < i then j else i)) st
  | _, _ => .bad
def intD (d : D) : M D := fun st => match d with
  | .int i => .ok (.int i) st
  | .bl k => .ok (.int (if k then 1 else 0)) st
  | _ => .bad
def rAbs : List V → Hp → VK → Prop := fun xs H Q => ∃ i, xs = [.int i] ∧ Q (.int (if i < 0 then -i else i)) H
def rMax2 : List V → Hp → VK → Prop := fun xs H Q => ∃ i j, xs = [.int i, .int j] ∧ Q (.int (if j > i then j else i)) H
def rMin2 : List V → Hp → VK → Prop := fun xs H Q => ∃ i j, xs = [.int i, .int j] ∧ Q (.int (if j < i then j else i)) H
def rInt1 : List V → Hp → VK → Prop := fun xs H Q => (∃ i, xs = [.int i] ∧ Q (.int i) H) ∨ ∃ k, xs = [.bl k] ∧ Q (.int (if k then 1 else 0)) H
theorem cr_abs : CallR X (.builtin "abs") rAbs := call_abs
theorem cr_max2 (hc : X.calm = true) : CallR X (.builtin "max") rMax2 := call_max2 hc
theorem cr_min2 (hc : X.calm = true) : CallR X (.builtin "min") rMin2 := call_min2 hc
theorem cr_int : CallR X (.type "int") rInt1 := call_int1
theorem cd_abs : CallD C rAbs (fn1 absD) := cd1 fun E ι H st v d Q R r q => by
  cases r with
  | int i => exact ⟨i, rfl, Pst.pure (rel := Rel1 C.K) q R (.int _)⟩
  | _ => exact q.elim
theorem cd_max : CallD C rMax2 (fn2 maxD) := cd2 fun E ι H st v u d e Q R r1 r2 q => by
  cases r1 <;> first
    | exact q.elim
    | (cases r2 <;> first
        | exact q.elim
        | exact ⟨_, _, rfl, Pst.pure (rel := Rel1 C.K) q R (.int _)⟩)
theorem cd_min : CallD C rMin2 (fn2 minD) := cd2 fun E ι H st v u d e Q R r1 r2 q => by
  cases r1 <;> first
    | exact q.elim
    | (cases r2 <;> first
        | exact q.elim
        | exact ⟨_, _, rfl, Pst.pure (rel := Rel1 C.K) q R (.int _)⟩)
theorem cd_int : CallD C rInt1 (fn1 intD) := cd1 fun E ι H st v d Q R r q => by
  cases r with
  | int i => exact .inl ⟨i, rfl, Pst.pure (rel := Rel1 C.K) q R (.int _)⟩
  | bl i => exact .inr ⟨i, rfl, Pst.pure (rel := Rel1 C.K) q R (.int _)⟩
  | _ => exact q.elim
end

/-! ### isinstance of built-in types -/
/-- the built-in type of a thing -/
def tyD (st : Sto) : D → Option String
  | .non => some "NoneType"
  | .bl _ => some "bool"
  | .int _ => some "int"
  | .str _ => some "str"
  | .tup _ => some "tuple"
  | .lst _ => some "list"
  | .obj n => match st[n]? with
    | some (.lst _) => some "list"
    | some (.dic _) => some "dict"
    | _ => none
  | .scr _ => none
def subT (a b : String) : Bool := a == b || (a == "bool" && b == "int")
def kitOk (a b : String) : Bool := decide (kitB a b = some (subT a b))
/-- one of the types -/
def isiD (Ts : List String) (d : D) : M D := fun st => match tyD st d with
  | some t => okIf (Ts.all (kitOk t)) (.bl (Ts.any (subT t))) st
  | none => .bad
section
variable {X : Cx} {C : Ctx} {E : XK}
theorem tyx_of {ι : List Addr} {H : Hp} {st : Sto} {v : V} {d : D} {t : String} (R : Rl C ι H st) (r : Rp C.K ι H v d) (h : tyD st d = some t) : TyX C.K H v (.type t) := by
  cases r with
  | non => cases h; exact .base .non
  | bl b => cases h; exact .base (.bl b)
  | int i => cases h; exact .base (.int i)
  | str x => cases h; exact .base (.str x)
  | tup j rs =>
    cases h
    rcases j with ⟨j | ⟨o, j⟩, _⟩ | ⟨o, its, n, j, hc, _⟩
    · exact .base (.tup j)
    · exact .fTuple j
    · exact .kTuple j hc
  | lst j rs =>
    cases h
    rcases j with ⟨j | ⟨o, j⟩, _⟩
    · exact .base (.lst j)
    · exact .base (.frz j)
  | @obj a n e =>
    cases s : st[n]? with
    | none => simp only [tyD, s] at h; cases h
    | some o =>
      obtain ⟨b, e2, q⟩ := R.get s
      rw [e] at e2
      cases e2
      cases o with
      | lst xs => simp only [tyD, s, Option.some.injEq] at h; subst h; obtain ⟨xs', q, _⟩ := q; exact .base (.lst q)
      | dic xs => simp only [tyD, s, Option.some.injEq] at h; subst h; obtain ⟨xs', q, _⟩ := q; exact .base (.dK q)
      | ins _ _ => simp only [tyD, s] at h; cases h
  | scr q => simp only [tyD] at h; cases h
theorem kitAny_of {K : PySem.W.Frag} {t : String} : ∀ {Ts : List String}, Ts.all (kitOk t) = true → PySem.W.kitAny K (.type t) (Ts.map Value.type) = some (Ts.any (subT t))
  | [], _ => rfl
  | T :: Ts, h => by
    rw [List.all_cons, Bool.and_eq_true] at h
    have h1 : kitB t T = some (subT t T) := of_decide_eq_true h.1
    rw [List.map_cons, List.any_cons]
    refine kitAny_cons (kit_ty h1) (fun e => ?_) (fun e => ?_)
    · rw [e, Bool.false_or]; exact kitAny_of h.2
    · rw [e, Bool.true_or]
theorem tys_paired : ∀ Ts : List String, Paired ClsV (Ts.map V.ty) (Ts.map Value.type)
  | [] => .nil
  | T :: Ts => .cons (.ty T) (tys_paired Ts)
variable {e : Expr} {pos p q1 q2 : Pos} {ma : Env → M D} {nm : Str} {T : String}
/-- isinstance(e, T) -/
theorem w_isi (ha : PE X e (rdE C E ma)) (hK : X.K = C.K) (hm : X.mg "isinstance" = none) (hmT : X.mg nm = none) (hv : bootBuiltins nm = some (.type T)) (hg : Gl X "isinstance" := by rfl) (hgT : Gl X nm := by rfl) (hn : nm ≠ "__name__" := by decide) (hd : (nm == ("__debug__" : Str)) = false := by decide)
    (h1 : starEach [e, .Name nm q1] X.env = (false, eval e X.env) :: starEach [.Name nm q1] X.env := by rfl) (h2 : starEach [.Name nm q1] X.env = (false, eval (.Name nm q1) X.env) :: starEach [] X.env := by rfl)
    (hpl : (backTo pos (starEach [.Name nm q1] X.env)).any (·.1) = false := by rfl) :
    PE X (.Call (.Name "isinstance" p) [e, .Name nm q1] [] pos) (rdE C E (eUn (isiD [T]) ma)) :=
  (pe_callB call_isi hg hm boot_isinstance (pa_cons ha (pa_cons (pe_bltn (v := .ty T) hgT hmT hv rfl hn hd) pa_nil h2) h1) (by decide) (by decide) h1 hpl).mono fun σ H Q ⟨env, ι, st, re, R, q⟩ => ⟨env, ι, st, re, R, (Pst.bind (rel := Rel1 C.K) q).mono fun x H1 ⟨d, ι1, st1, s1, R1, r1, q1⟩ => by
    replace q1 : Pst C (Rel1 C.K) E ι1 H1 Q (isiD [T] d st1) := q1
    unfold isiD at q1
    cases e1 : tyD st1 d with
    | none => simp only [e1] at q1; exact q1.elim
    | some t =>
      simp only [e1] at q1
      obtain ⟨c, q2⟩ := okIf_cases q1
      rw [List.all_cons, List.all_nil, Bool.and_true] at c
      rw [List.any_cons, List.any_nil, Bool.or_false] at q2
      rw [hK]
      exact ⟨x, .ty T, .type t, .type T, subT t T, rfl, .ty T, tyx_of R1 r1 e1, kit_ty (of_decide_eq_true c), q2.pure R1 (.bl _)⟩⟩
end
end Mir

namespace Mir
open PySem PySem.Spec PyProof.Rows L2

/-! ### enumerate and zip over lists and tuples in any mix -/
/-- b: a list, else a tuple -/
def ItS (b : Bool) (h : Heap) (it a : Addr) (i : Nat) : Prop := match b with
  | true => h.IsListIter it a i
  | false => h.IsTupleIter it a i
def CtS (b : Bool) (h : Heap) (a : Addr) (us : Array Value) : Prop := match b with
  | true => h.IsList a us
  | false => h.IsTuple a us
def SqB (b : Bool) (K : PySem.W.Frag) (H : Hp) (a : Addr) (xs : List V) : Prop := match b with
  | true => SqL K H a xs
  | false => SqT K H a xs
def itO (b : Bool) (a : Addr) : Obj := match b with
  | true => { cls := .type "list_iterator", data := .fields #[.ref a, .int 0 0] }
  | false => { cls := .type "tuple_iterator", data := .fields #[.ref a, .int 0 0] }
theorem ItS.obj {b : Bool} {h : Heap} {it a : Addr} {i : Nat} (s : ItS b h it a i) : ∃ o, h.get? it = some o ∧ ∀ v, o.data ≠ .cell v := by
  cases b with
  | true => obtain ⟨o, e, _, d⟩ := s; exact ⟨o, e, fun v z => by rw [d] at z; cases z⟩
  | false => obtain ⟨o, e, _, d⟩ := s; exact ⟨o, e, fun v z => by rw [d] at z; cases z⟩
theorem ItS.move {b : Bool} {h h' : Heap} {it a : Addr} {i : Nat} (s : ItS b h it a i) (k : ∀ o, h.get? it = some o → h'.get? it = some o) : ItS b h' it a i := by
  cases b with
  | true => exact s.at fun o e => k o e
  | false => exact s.at fun o e => k o e
theorem itS_new {b : Bool} {h : Heap} {it a : Addr} (e : h.get? it = some (itO b a)) : ItS b h it a 0 := by
  cases b with
  | true => exact ⟨_, e, rfl, rfl⟩
  | false => exact ⟨_, e, rfl, rfl⟩
theorem drawsS (b : Bool) {prog : Program} {w : World} {A : Around} (hh : A.handled = none) (it a : Addr) (hne : a ≠ it) (us : Array Value) : Draws prog w A it [it, a] us.size (fun i v => us[i]? = some v) (fun i h => ItS b h it a i ∧ CtS b h a us) := by
  cases b with
  | true => exact Draws.list hh it a hne us
  | false => exact Draws.tuple hh it a hne us
theorem beginsS (b : Bool) (a : Addr) (us : Array Value) : Begins (.ref a) (itO b a) fun h => CtS b h a us := by
  cases b with
  | true => exact begins_list a us
  | false => exact begins_tuple a us
section
variable {X : Cx} {pins : List (Addr × Obj)} {σ : L2.St} {H : Hp} {s : Shared} {a : Addr} {xs ys : List V} {b : Bool}
theorem sqB_get (I : Inv X pins σ H s) (h : SqB b X.K H a xs) : ∃ its : List Value, Vals xs its ∧ CtS b s.heap a its.toArray ∧ a < s.heap.objs.size ∧ H a ≠ some (.own a) := by
  cases b with
  | true =>
    obtain ⟨its, r, pl, _⟩ := I.list h
    refine ⟨its, r, pl.isList, pl.lt, fun z => ?_⟩
    rcases h with (h | ⟨o, h⟩) | ⟨o, its', n, hk, _⟩
    · rw [h] at z; cases z
    · rw [h] at z; cases z
    · have := (I.bs a o (I.ok.mod.kin a o hk)).2
      rw [this] at z; cases z
  | false =>
    obtain ⟨its, r, pl, _⟩ := I.tuple h
    refine ⟨its, r, pl, pl.lt, fun z => ?_⟩
    rcases h with (h | ⟨o, h⟩) | ⟨o, its', n, hk, _⟩
    · rw [h] at z; cases z
    · rw [h] at z; cases z
    · have := (I.bs a o (I.ok.mod.kin a o hk)).2
      rw [this] at z; cases z
theorem sqB_inj (I : Inv X pins σ H s) (h : SqB b X.K H a xs) (h' : SqB b X.K H a ys) : xs = ys := by
  cases b with
  | true => exact I.list_inj h h'
  | false => exact I.tuple_inj h h'
end
/-- at each turn a new pair of the turn's number and the item -/
def IteB (b : Bool) (K : PySem.W.Frag) (a : Addr) : It :=
  ⟨fun i H => ∃ (xs : List V) (x : V), SqB b K H a xs ∧ xs[i]? = some x, fun i H v H' => ∃ T x, v = .ref T ∧ H T = none ∧ H' = upd H T (.tup [.int (i : Nat), x]) ∧ ∀ xs, SqB b K H a xs → xs[i]? = some x, fun i H => ∃ xs : List V, SqB b K H a xs ∧ i = xs.length⟩
theorem turn_enumB (b : Bool) {P : Program} {w : World} {K : PySem.W.Frag} {elts : List Expr} {kk : Nat} {tpos : Pos} (a e it : Addr) (h1 : e ≠ it) (h2 : e ≠ a) (h3 : a ≠ it) :
    Turn P w K (.Tuple elts kk tpos) (IteB b K a) [e, it] e (fun i h => (∃ old, IsEnum h e it ((i : Nat) : Int) old) ∧ ItS b h it a i) where
  mem := by simp
  obj := fun i h st c hc => by
    obtain ⟨⟨old, he⟩, hi⟩ := st
    rcases List.mem_cons.mp hc with z | z
    · rw [z]; exact ⟨_, he, fun v q => nomatch q⟩
    · rw [List.mem_singleton.mp z]; exact hi.obj
  keep := fun i h h' st k => ⟨st.1.imp fun old he => k e (by simp) _ he, st.2.move fun o q => k it (by simp) o q⟩
  item := by
    intro X hP hw hK hc i pins s σ H E I hf st hg
    subst hP hw hK
    obtain ⟨he, hi⟩ := st
    obtain ⟨xs, x, hq, hx⟩ := hg
    obtain ⟨its, rv, ct, _⟩ := sqB_get I hq
    obtain ⟨u, hu, ru⟩ := rv.get hx
    have hlt : i < its.toArray.size := by
      rw [List.size_toArray]
      exact (List.getElem?_eq_some_iff.mp hu).1
    have W := GoesN.enumFrom (prog := X.prog) (w := X.w) (A := X.A) (elts := elts) (x1 := kk) (pos := tpos) 0 (drawsS b (prog := X.prog) (w := X.w) (A := X.A.in1) (I.ok.hd hc) it a h3 its.toArray) e h1 (by simp only [List.mem_cons, List.not_mem_nil, or_false, not_or]; exact ⟨h1, h2⟩) (by simp)
    refine W.goes i s (fun v s2 => ∃ x H', Inv X pins σ H' s2 ∧ RelV x v ∧ (IteB b X.K a).yld i H x H' ∧ ((∃ old, IsEnum s2.heap e it (((i + 1 : Nat) : Nat) : Int) old) ∧ ItS b s2.heap it a (i + 1)) ∧ ∀ c ∈ [e, it], H' c = none) E hlt ⟨?_, hi, ct⟩ fun v h' tk hY st' hk _ => ?_
    · rw [Int.zero_add]; exact he
    · obtain ⟨T, t, u', rfl, hT, hu', hTu⟩ := hY
      have eu : u' = u := by
        have z : its.toArray[i]? = some u := by rw [List.getElem?_toArray]; exact hu
        rw [z] at hu'
        exact (Option.some.inj hu').symm
      subst eu
      have new : ObjOk X.prog X.w (upd H T (.tup [.int (i : Nat), x])) h' T (.tup [.int (i : Nat), x]) :=
        ⟨by show 2 ≤ sizeLine; decide, [.int (0 + (i : Int)) t, u'], .cons ⟨t, by rw [Int.zero_add]⟩ (.cons ru .nil), hTu⟩
      have I1 : Inv X pins σ (upd H T (.tup [.int (i : Nat), x])) { s with heap := h', toks := tk } := I.turnedNew (ch := [e, it]) hk hf hT new
      obtain ⟨he', hi', _⟩ := st'
      refine ⟨.ref T, _, I1, rfl, ⟨T, x, rfl, I.hok.fresh hT, rfl, fun ys hy => by rw [sqB_inj I hy hq]; exact hx⟩, ⟨by rw [Int.zero_add] at he'; exact he', hi'⟩, fun c hc' => ?_⟩
      have hcl : c < s.heap.objs.size := by
        rcases List.mem_cons.mp hc' with z | z
        · obtain ⟨old, he0⟩ := he
          rw [z]; exact Heap.lt_size he0
        · obtain ⟨o, ho, _⟩ := hi.obj
          rw [List.mem_singleton.mp z]; exact Heap.lt_size ho
      rw [upd_ne (Nat.ne_of_lt (Nat.lt_of_lt_of_le hcl hT))]
      exact (hf c hc').1
  done := by
    intro X hP hw hK hc i pins s σ H E I hf st hg
    subst hP hw hK
    obtain ⟨he, hi⟩ := st
    obtain ⟨xs, hq, hx⟩ := hg
    obtain ⟨its, rv, ct, _⟩ := sqB_get I hq
    have W := GoesN.enumFrom (prog := X.prog) (w := X.w) (A := X.A) (elts := elts) (x1 := kk) (pos := tpos) 0 (drawsS b (prog := X.prog) (w := X.w) (A := X.A.in1) (I.ok.hd hc) it a h3 its.toArray) e h1 (by simp only [List.mem_cons, List.not_mem_nil, or_false, not_or]; exact ⟨h1, h2⟩) (by simp)
    have hn : its.toArray.size = i := by rw [List.size_toArray, ← rv.length, hx]
    refine W.stops s (fun s2 => Inv X pins σ H s2) E ?_ fun h' tk hk _ => I.turnedL (ch := [e, it]) (t' := tk) hk hf
    rw [hn]
    refine ⟨?_, hi, ct⟩
    rw [Int.zero_add]
    exact he
  self := fun A i s Q E st h => let ⟨⟨_, he⟩, _⟩ := st; wpAny_pyIter_enum he h

/-- enumerate(v): one argument, whatever v is walked as -/
theorem meets_enum1 {v : Value} {o : Obj} {B : Heap → Prop} (W : Begins v o B) :
    Meets (Builtin.«enumerate.__new__» ⟨[.type "enumerate", v], []⟩) (fun _ R s => B s.heap ∧
      R (.ok (.ret (.ref (s.heap.push o).objs.size))) { s with heap := (s.heap.push o).push { cls := .type "enumerate", data := .fields #[.none, .bool false, .ref s.heap.objs.size, rawInt 0, .none, .none] } }) :=
  .of_wp fun prog w A R s h => by
    obtain ⟨hp, gs, dr, tk, os⟩ := s
    obtain ⟨hb, h⟩ := h
    have hsub := sub_enumerate
    have go : ∀ {A' : Around} {E' : Value → Shared → Prop} {Q' : Value → Shared → Prop}, Q' (.ref hp.objs.size) ⟨hp.push o, gs, dr, tk, os⟩ → wpAny (model prog w) A' (pyIter v) Q' E' ⟨hp, gs, dr, tk, os⟩ :=
      fun q => W.iter prog w _ _ ⟨hp, gs, dr, tk, os⟩ _ hb q
    wp_walk using go
    refine wpAny_stack_any fun st => wpAny_pure ?_
    split
    · rename_i c _ _ _ _ _
      cases (c == Value.type "enumerate")
      all_goals
        wp_walk using go
        exact ⟨_, rfl, h⟩
    · wp_walk using go
      exact ⟨_, rfl, h⟩
theorem call_enum1 {prog : Program} {w : World} {A : Around} {E : Value → Shared → Prop} {s : Shared} {v : Value} {o : Obj} {B : Heap → Prop} {Q : Value → Shared → Prop} (W : Begins v o B) (hb : B s.heap)
    (h : ∀ h', IsEnum h' (s.heap.objs.size + 1) s.heap.objs.size 0 .none → h'.get? s.heap.objs.size = some o → (∀ b o, s.heap.get? b = some o → h'.get? b = some o) → Q (.ref (s.heap.objs.size + 1)) { s with heap := h' }) :
    wpAny (model prog w) A (call (.type "enumerate") [v]) Q E s := by
  refine callType_new F.called_enumerate (by decide) (F.typeCall_enumerate_1 _) (F.newCall_enumerate_1 _) (fun obj => F.args_object_init_2 obj _) F.entry_enumerate_new (meets_enum1 W) ⟨hb, ?_⟩
  have hz : (s.heap.push o).objs.size = s.heap.objs.size + 1 := Heap.size_push ..
  show _ ∧ _
  rw [hz]
  have he : IsEnum ((s.heap.push o).push { cls := .type "enumerate", data := .fields #[.none, .bool false, .ref s.heap.objs.size, rawInt 0, .none, .none] }) (s.heap.objs.size + 1) s.heap.objs.size 0 .none := by
    have q := Heap.get?_push_size (s.heap.push o) (o := { cls := .type "enumerate", data := .fields #[.none, .bool false, .ref s.heap.objs.size, rawInt 0, .none, .none] }) rfl
    rw [hz] at q
    exact q
  exact ⟨⟨_, he, rfl⟩, h _ he (Heap.get?_push_of_some _ (Heap.get?_push_size _ W.free)) fun b o x => Heap.get?_push_of_some _ (Heap.get?_push_of_some _ x)⟩
/-- which of the two a value is -/
def enumL (xs : List D) : List D := (List.range xs.length).map fun i => .tup [.int (i : Nat), xs.getD i .non]
theorem enumL_len (xs : List D) : (enumL xs).length = xs.length := by unfold enumL; rw [List.length_map, List.length_range]
theorem enumL_get {xs : List D} {i : Nat} {e : D} (h : (enumL xs)[i]? = some e) : ∃ d, xs[i]? = some d ∧ e = .tup [.int (i : Nat), d] := by
  have hl := (List.getElem?_eq_some_iff.mp h).1
  rw [enumL_len] at hl
  refine ⟨xs[i], List.getElem?_eq_getElem hl, ?_⟩
  unfold enumL at h
  rw [List.getElem?_map, List.getElem?_range hl] at h
  simp only [Option.map_some, Option.some.injEq] at h
  rw [← h, List.getD_eq_getElem?_getD, List.getElem?_eq_getElem hl]
  rfl
def enumSrc (d : D) : M Src := fun st => match seqOf st d with
  | some xs => .ok (enumL xs, fun st' => seqOf st' d = some xs) st
  | none => .bad
def itEnum (a : Env → M D) : Env → M Src := fun env => a env >>= enumSrc
section
variable {C : Ctx} {ι : List Addr} {H : Hp} {st : Sto}
/-- a walked thing by its kind, as long as the store's word holds -/
theorem kind_of {x : V} {d : D} {ds : List D} (R : Rl C ι H st) (r : Rp C.K ι H x d) (e : seqOf st d = some ds) :
    ∃ (b : Bool) (a : Addr), x = .ref a ∧ ∀ (ι1 : List Addr) (H1 : Hp) (st1 : Sto), Stp ι H ι1 H1 → Rl C ι1 H1 st1 → seqOf st1 d = some ds → ∃ ws, SqB b C.K H1 a ws ∧ Rps C.K ι1 H1 ws ds := by
  by_cases ht : ∃ ys, d = .tup ys
  · obtain ⟨ys, rfl⟩ := ht
    cases r with
    | @tup a xs _ j rs =>
      simp only [seqOf, Option.some.injEq] at e
      subst e
      exact ⟨false, a, rfl, fun ι1 H1 st1 s _ _ => ⟨xs, (j.step s).t, rs.step s⟩⟩
  · have hsl : ∀ st1, seqOf st1 d = lstOf st1 d := fun st1 => by
      cases d <;> first | rfl | exact absurd ⟨_, rfl⟩ ht
    obtain ⟨a, vs, ex, hq, rs⟩ := lst_of R r ((hsl st).symm.trans e)
    refine ⟨true, a, ex, fun ι1 H1 st1 s R1 e1 => ?_⟩
    obtain ⟨a2, ws, ex2, hq2, rs2⟩ := lst_of R1 (r.step s) ((hsl st1).symm.trans e1)
    rw [ex] at ex2
    cases ex2
    exact ⟨ws, .inl hq2, rs2⟩
end
section
variable {X : Cx} {C : Ctx} {E : XK} {e e2 : Expr} {p pos tpos : Pos} {elts : List Expr} {kk : Nat} {ma mb : Env → M D}
def iEnumB (K : PySem.W.Frag) (ta : TA) : TI := fun σ H R => ta σ H fun vs H1 => ∃ (b : Bool) (a : Addr) (xs : List V), vs = [.ref a] ∧ SqB b K H1 a xs ∧ R (IteB b K a) H1
theorem pi_enumB {ta : TA} (ha : PA X [e] ta) (hm : X.mg "enumerate" = none) (hg : Gl X "enumerate") (hs : starEach [e] X.env = [(false, eval e X.env)]) : PI X (.Tuple elts kk tpos) (.Call (.Name "enumerate" p) [e] [] pos) (iEnumB X.K ta) := by
  refine ⟨fun pins s σ H R I h => ?_⟩
  refine Call_ (ld_blt I hg hm boot_enumerate (PyProof.Rows.callWith_type1 (thn (ha.run pos pins s σ H _ I h) fun us s1 ⟨vs, H1, I1, r1, q1⟩ => ?_) hs rfl))
  obtain ⟨b, a, xs, rfl, hq, q⟩ := q1
  cases r1 with
  | cons r rr =>
    cases rr
    cases r
    obtain ⟨its, rv, ct, hal, _⟩ := sqB_get I1 hq
    refine call_enum1 (beginsS b a its.toArray) ct fun h' he hit hk => wpAny_pyIter_enum he ?_
    have I2 : Inv X pins σ H1 { s1 with heap := h' } := I1.kept (t' := s1.toks) hk
    refine ⟨s1.heap.objs.size + 1, [s1.heap.objs.size + 1, s1.heap.objs.size], _, _, H1, rfl, I2, turn_enumB b a (s1.heap.objs.size + 1) s1.heap.objs.size (Nat.succ_ne_self _) (Nat.ne_of_gt (Nat.lt_succ_of_lt hal)) (Nat.ne_of_lt hal), ⟨⟨.none, he⟩, itS_new hit⟩, fun c hc => ?_, q⟩
    have hle : s1.heap.objs.size ≤ c := by
      rcases List.mem_cons.mp hc with z | z
      · rw [z]; exact Nat.le_add_right _ _
      · rw [List.mem_singleton.mp z]; exact Nat.le_refl _
    exact I1.fpOk hle (I1.hok.fresh hle)
theorem i_enum (ha : PE X e (rdE C E ma)) (hK : X.K = C.K) (hm : X.mg "enumerate" = none) (hg : Gl X "enumerate" := by rfl) (hs : starEach [e] X.env = [(false, eval e X.env)] := by rfl) (hs' : starEach [e] X.env = (false, eval e X.env) :: starEach [] X.env := by rfl) :
    PI X (.Tuple elts kk tpos) (.Call (.Name "enumerate" p) [e] [] pos) (rdI C E (itEnum ma)) :=
  (pi_enumB (pa_cons ha pa_nil hs') hm hg hs).mono fun σ H R ⟨env, ι, st, re, Rl0, q⟩ => ⟨env, ι, st, re, Rl0, (Pst.bind (rel := Rel1 C.K) q).mono fun x H1 ⟨d, ι1, st1, s1, R1, r1, q1⟩ => by
    replace q1 : Pst C (RelIt C) E ι1 H1 R (enumSrc d st1) := q1
    unfold enumSrc at q1
    cases e1 : seqOf st1 d with
    | none => simp only [e1] at q1; exact q1.elim
    | some ds =>
      simp only [e1] at q1
      obtain ⟨b, a, rfl, hk⟩ := kind_of R1 r1 e1
      obtain ⟨ws0, hw0, _⟩ := hk ι1 H1 st1 (Stp.refl _ _) R1 e1
      rw [hK]
      refine ⟨b, a, ws0, rfl, hw0, Pst.pure (rel := RelIt C) q1 R1 fun ι2 H2 st2 i s2 R2 e2 => ?_⟩
      obtain ⟨ws, hw, rw'⟩ := hk ι2 H2 st2 s2 R2 e2
      refine ⟨fun hi => ⟨ws, hw, ?_⟩, fun dd hd => ?_⟩
      · rw [hi, rw'.length]
        exact enumL_len ds
      · obtain ⟨d0, hd0, rfl⟩ := enumL_get hd
        obtain ⟨v, hv, rv⟩ := rw'.get hd0
        refine ⟨⟨ws, v, hw, hv⟩, fun y H' hy => ?_⟩
        obtain ⟨T, x, rfl, nT, rfl, hx⟩ := hy
        have ev := hx ws hw
        rw [hv] at ev
        cases ev
        exact ⟨Stp.new1 nT, R2.new1 nT, .tup (.inl ⟨.inl upd_same, R2.fresh nT⟩) (.cons (.int _) (.cons (rv.step (Stp.new1 nT)) .nil))⟩⟩
end

/-! ### zip -/
def ItzB (b c : Bool) (K : PySem.W.Frag) (a d : Addr) : It :=
  ⟨fun i H => ∃ (xs ys : List V) (x y : V), SqB b K H a xs ∧ SqB c K H d ys ∧ xs[i]? = some x ∧ ys[i]? = some y,
    fun i H v H' => ∃ T x y, v = .ref T ∧ H T = none ∧ H' = upd H T (.tup [x, y]) ∧ (∀ xs, SqB b K H a xs → xs[i]? = some x) ∧ ∀ ys, SqB c K H d ys → ys[i]? = some y,
    fun i H => ∃ xs ys : List V, SqB b K H a xs ∧ SqB c K H d ys ∧ i = min xs.length ys.length⟩
theorem turn_zipB (b c : Bool) {P : Program} {w : World} {K : PySem.W.Frag} {elts : List Expr} {kk : Nat} {tpos : Pos} (a d : Addr) (N : Nat) (ha : a < N) (hd : d < N) :
    Turn P w K (.Tuple elts kk tpos) (ItzB b c K a d) [N + 4, N + 2, N + 3, N, N + 1] (N + 4)
      (fun i h => IsZip h (N + 4) (N + 2) (N + 3) .none ∧ IsTupOf2 h (N + 2) (.ref N) (.ref (N + 1)) ∧ (∃ a1 a2, IsTupOf2 h (N + 3) a1 a2) ∧ ItS b h N a i ∧ ItS c h (N + 1) d i) where
  mem := by simp
  obj := fun i h st q hq => by
    obtain ⟨hz, hTI, ⟨x, y, hTO⟩, h1, h2⟩ := st
    have e' : q = N + 4 ∨ q = N + 2 ∨ q = N + 3 ∨ q = N ∨ q = N + 1 := by simpa using hq
    rcases e' with z | z | z | z | z
    · rw [z]; exact ⟨_, hz, fun v q => nomatch q⟩
    · rw [z]; exact ⟨_, hTI, fun v q => nomatch q⟩
    · rw [z]; exact ⟨_, hTO, fun v q => nomatch q⟩
    · rw [z]; exact h1.obj
    · rw [z]; exact h2.obj
  keep := fun i h h' st k => by
    obtain ⟨hz, hTI, ⟨x, y, hTO⟩, h1, h2⟩ := st
    exact ⟨k _ (by simp) _ hz, k _ (by simp) _ hTI, ⟨x, y, k _ (by simp) _ hTO⟩, h1.move fun o q => k _ (by simp) o q, h2.move fun o q => k _ (by simp) o q⟩
  item := by
    intro X hP hw hK hc i pins s σ H E I hf st hg
    subst hP hw hK
    obtain ⟨hz, hTI, hTO, h1, h2⟩ := st
    obtain ⟨xs, ys, x, y, hqx, hqy, hx, hy⟩ := hg
    obtain ⟨its, rv, ct, _⟩ := sqB_get I hqx
    obtain ⟨its2, rv2, ct2, _⟩ := sqB_get I hqy
    obtain ⟨u, hu, ru⟩ := rv.get hx
    obtain ⟨u2, hu2, ru2⟩ := rv2.get hy
    have hlt : i < min its.toArray.size its2.toArray.size := by
      rw [List.size_toArray, List.size_toArray]
      exact Nat.lt_min.mpr ⟨(List.getElem?_eq_some_iff.mp hu).1, (List.getElem?_eq_some_iff.mp hu2).1⟩
    have S : ZipSep2 (N + 4) (N + 2) (N + 3) N (N + 1) (N :: [a]) ((N + 1) :: [d]) := zip_sep2 (fun z hz => by rw [List.mem_singleton.mp hz]; exact ha) (fun z hz => by rw [List.mem_singleton.mp hz]; exact hd)
    have W := GoesN.zip2 (prog := X.prog) (w := X.w) (A := X.A) (elts := elts) (x1 := kk) (pos := tpos) S (drawsS b (prog := X.prog) (w := X.w) (A := X.A.in1) (I.ok.hd hc) N a (Nat.ne_of_lt ha) its.toArray) (drawsS c (prog := X.prog) (w := X.w) (A := X.A.in1) (I.ok.hd hc) (N + 1) d (Nat.ne_of_lt (Nat.lt_succ_of_lt hd)) its2.toArray)
    have nin : ∀ z, z ∈ [N + 4, N + 2, N + 3, N, N + 1] → z < s.heap.objs.size := fun z hz' => by
      have e' : z = N + 4 ∨ z = N + 2 ∨ z = N + 3 ∨ z = N ∨ z = N + 1 := by simpa using hz'
      rcases e' with q | q | q | q | q
      · rw [q]; exact Heap.lt_size hz
      · rw [q]; exact Heap.lt_size hTI
      · obtain ⟨_, _, hTO⟩ := hTO; rw [q]; exact Heap.lt_size hTO
      · obtain ⟨o, ho, _⟩ := h1.obj; rw [q]; exact Heap.lt_size ho
      · obtain ⟨o, ho, _⟩ := h2.obj; rw [q]; exact Heap.lt_size ho
    refine W.goes i s (fun v s2 => ∃ x H', Inv X pins σ H' s2 ∧ RelV x v ∧ (ItzB b c X.K a d).yld i H x H' ∧ (IsZip s2.heap (N + 4) (N + 2) (N + 3) .none ∧ IsTupOf2 s2.heap (N + 2) (.ref N) (.ref (N + 1)) ∧ (∃ a1 a2, IsTupOf2 s2.heap (N + 3) a1 a2) ∧ ItS b s2.heap N a (i + 1) ∧ ItS c s2.heap (N + 1) d (i + 1)) ∧ ∀ q ∈ [N + 4, N + 2, N + 3, N, N + 1], H' q = none) E hlt ⟨hz, hTI, hTO, ⟨h1, ct⟩, ⟨h2, ct2⟩⟩ fun v h' tk hY st' hk _ => ?_
    obtain ⟨T, v1, v2, rfl, hT, hv1, hv2, hTu⟩ := hY
    have e1 : v1 = u := by
      have z : its.toArray[i]? = some u := by rw [List.getElem?_toArray]; exact hu
      rw [z] at hv1
      exact (Option.some.inj hv1).symm
    have e2 : v2 = u2 := by
      have z : its2.toArray[i]? = some u2 := by rw [List.getElem?_toArray]; exact hu2
      rw [z] at hv2
      exact (Option.some.inj hv2).symm
    subst e1 e2
    have new : ObjOk X.prog X.w (upd H T (.tup [x, y])) h' T (.tup [x, y]) := ⟨by show 2 ≤ sizeLine; decide, [v1, v2], .cons ru (.cons ru2 .nil), hTu⟩
    have I1 : Inv X pins σ (upd H T (.tup [x, y])) { s with heap := h', toks := tk } := I.turnedNew (ch := [N + 4, N + 2, N + 3, N, N + 1]) (fun b o hb q => hk b o (fun z => hb (by
      have e' : b = N + 4 ∨ b = N + 3 ∨ b = N ∨ b = N + 1 := by simpa using z
      rcases e' with w | w | w | w <;> rw [w] <;> simp)) q) hf hT new
    obtain ⟨z1, z2, z3, ⟨z4, _⟩, ⟨z5, _⟩⟩ := st'
    refine ⟨.ref T, _, I1, rfl, ⟨T, x, y, rfl, I.hok.fresh hT, rfl, fun zs hz => by rw [sqB_inj I hz hqx]; exact hx, fun zs hz => by rw [sqB_inj I hz hqy]; exact hy⟩, ⟨z1, z2, z3, z4, z5⟩, fun q hq => ?_⟩
    rw [upd_ne (Nat.ne_of_lt (Nat.lt_of_lt_of_le (nin q hq) hT))]
    exact (hf q hq).1
  done := by
    intro X hP hw hK hc i pins s σ H E I hf st hg
    subst hP hw hK
    obtain ⟨hz, hTI, hTO, h1, h2⟩ := st
    obtain ⟨xs, ys, hqx, hqy, hi⟩ := hg
    obtain ⟨its, rv, ct, _⟩ := sqB_get I hqx
    obtain ⟨its2, rv2, ct2, _⟩ := sqB_get I hqy
    have S : ZipSep2 (N + 4) (N + 2) (N + 3) N (N + 1) (N :: [a]) ((N + 1) :: [d]) := zip_sep2 (fun z hz => by rw [List.mem_singleton.mp hz]; exact ha) (fun z hz => by rw [List.mem_singleton.mp hz]; exact hd)
    have W := GoesN.zip2 (prog := X.prog) (w := X.w) (A := X.A) (elts := elts) (x1 := kk) (pos := tpos) S (drawsS b (prog := X.prog) (w := X.w) (A := X.A.in1) (I.ok.hd hc) N a (Nat.ne_of_lt ha) its.toArray) (drawsS c (prog := X.prog) (w := X.w) (A := X.A.in1) (I.ok.hd hc) (N + 1) d (Nat.ne_of_lt (Nat.lt_succ_of_lt hd)) its2.toArray)
    have hn : min its.toArray.size its2.toArray.size = i := by rw [List.size_toArray, List.size_toArray, ← rv.length, ← rv2.length, hi]
    refine W.stops s (fun s2 => Inv X pins σ H s2) E ?_ fun h' tk hk _ => I.turnedL (ch := [N + 4, N + 2, N + 3, N, N + 1]) (t' := tk) (fun b o hb q => hk b o (fun z => hb (by
      have e' : b = N + 4 ∨ b = N + 3 ∨ b = N ∨ b = N + 1 := by simpa using z
      rcases e' with w | w | w | w <;> rw [w] <;> simp)) q) hf
    rw [hn]
    exact ⟨hz, hTI, hTO, ⟨h1, ct⟩, ⟨h2, ct2⟩⟩
  self := fun A i s Q E st h => wpAny_pyIter_zip st.1 h
def zipL (xs ys : List D) : List D := List.zipWith (fun a b => .tup [a, b]) xs ys
theorem zipL_get {xs ys : List D} {i : Nat} {e : D} (h : (zipL xs ys)[i]? = some e) : ∃ a b, xs[i]? = some a ∧ ys[i]? = some b ∧ e = .tup [a, b] := by
  unfold zipL at h
  rw [List.getElem?_zipWith] at h
  cases e1 : xs[i]? with
  | none => rw [e1] at h; cases h
  | some a =>
    cases e2 : ys[i]? with
    | none => rw [e1, e2] at h; cases h
    | some b =>
      rw [e1, e2] at h
      exact ⟨a, b, rfl, rfl, (Option.some.inj h).symm⟩
def zipSrc (c d : D) : M Src := fun st => match seqOf st c, seqOf st d with
  | some xs, some ys => .ok (zipL xs ys, fun st' => seqOf st' c = some xs ∧ seqOf st' d = some ys) st
  | _, _ => .bad
def itZip (a b : Env → M D) : Env → M Src := fun env => a env >>= fun x => b env >>= fun y => zipSrc x y
section
variable {X : Cx} {C : Ctx} {E : XK} {e e2 : Expr} {p pos tpos : Pos} {elts : List Expr} {kk : Nat} {ma mb : Env → M D}
def iZipB (K : PySem.W.Frag) (ta : TA) : TI := fun σ H R => ta σ H fun vs H1 => ∃ (b c : Bool) (a d : Addr) (xs ys : List V), vs = [.ref a, .ref d] ∧ SqB b K H1 a xs ∧ SqB c K H1 d ys ∧ R (ItzB b c K a d) H1
theorem pi_zipB {ta : TA} (hw : PA X [e, e2] ta) (hm : X.mg "zip" = none) (hg : Gl X "zip") (hs : starEach [e, e2] X.env = (false, eval e X.env) :: starEach [e2] X.env) (hpl : (backTo pos (starEach [e2] X.env)).any (·.1) = false) :
    PI X (.Tuple elts kk tpos) (.Call (.Name "zip" p) [e, e2] [] pos) (iZipB X.K ta) := by
  refine ⟨fun pins s σ H R I h => ?_⟩
  refine Call_ (ld_blt I hg hm PyProof.Rows.boot_zip (PyProof.Rows.callWith_type1 (thn (hw.run pos pins s σ H _ I h) fun us s1 ⟨vs, H1, I1, r1, q1⟩ => ?_) hs hpl))
  obtain ⟨b, c, a, d, xs, ys, rfl, hqx, hqy, q⟩ := q1
  obtain ⟨u1, u2, rfl, k1, k2⟩ := vals2 r1
  cases k1
  cases k2
  obtain ⟨its, _, ct, hal, _⟩ := sqB_get I1 hqx
  obtain ⟨its2, _, ct2, hdl, _⟩ := sqB_get I1 hqy
  refine zip_begins2 (beginsS b a its.toArray) (beginsS c d its2.toArray) ct ct2 fun h' hz hTI hTO hi1 hi2 _ hk => wpAny_pyIter_zip hz ?_
  have I2 : Inv X pins σ H1 { s1 with heap := h' } := I1.kept (t' := s1.toks) hk
  refine ⟨s1.heap.objs.size + 4, [s1.heap.objs.size + 4, s1.heap.objs.size + 2, s1.heap.objs.size + 3, s1.heap.objs.size, s1.heap.objs.size + 1], _, _, H1, rfl, I2, turn_zipB b c a d s1.heap.objs.size hal hdl, ⟨hz, hTI, ⟨_, _, hTO⟩, itS_new hi1, itS_new hi2⟩, fun z hz' => ?_, q⟩
  have e' : z = s1.heap.objs.size + 4 ∨ z = s1.heap.objs.size + 2 ∨ z = s1.heap.objs.size + 3 ∨ z = s1.heap.objs.size ∨ z = s1.heap.objs.size + 1 := by simpa using hz'
  have hle : s1.heap.objs.size ≤ z := by
    rcases e' with w | w | w | w | w <;> rw [w] <;> first | exact Nat.le_refl _ | exact Nat.le_add_right _ _
  exact I1.fpOk hle (I1.hok.fresh hle)
theorem i_zip (ha : PE X e (rdE C E ma)) (hb : PE X e2 (rdE C E mb)) (hK : X.K = C.K) (hm : X.mg "zip" = none) (hg : Gl X "zip" := by rfl) (hs : starEach [e, e2] X.env = (false, eval e X.env) :: starEach [e2] X.env := by rfl) (hs2 : starEach [e2] X.env = (false, eval e2 X.env) :: starEach [] X.env := by rfl)
    (hpl : (backTo pos (starEach [e2] X.env)).any (·.1) = false := by rfl) : PI X (.Tuple elts kk tpos) (.Call (.Name "zip" p) [e, e2] [] pos) (rdI C E (itZip ma mb)) :=
  (pi_zipB (pa_cons ha (pa_cons hb pa_nil hs2) hs) hm hg hs hpl).mono fun σ H R ⟨env, ι, st, re, Rl0, q⟩ => ⟨env, ι, st, re, Rl0, (Pst.bind (rel := Rel1 C.K) q).mono fun x H1 ⟨d, ι1, st1, s1, R1, r1, q1⟩ =>
    ⟨env, ι1, st1, re.step s1, R1, (Pst.bind (rel := Rel1 C.K) q1).mono fun y H2 ⟨d', ι2, st2, s2, R2, r2, q2⟩ => by
      replace q2 : Pst C (RelIt C) E ι2 H2 R (zipSrc d d' st2) := q2
      unfold zipSrc at q2
      cases e1 : seqOf st2 d with
      | none => simp only [e1] at q2; exact q2.elim
      | some ds =>
        cases e2' : seqOf st2 d' with
        | none => simp only [e1, e2'] at q2; exact q2.elim
        | some es =>
          simp only [e1, e2'] at q2
          obtain ⟨b, a, rfl, hk⟩ := kind_of R2 (Rp.step s2 r1) e1
          obtain ⟨c, a', rfl, hk'⟩ := kind_of R2 r2 e2'
          obtain ⟨ws0, hw0, _⟩ := hk ι2 H2 st2 (Stp.refl _ _) R2 e1
          obtain ⟨zs0, hz0, _⟩ := hk' ι2 H2 st2 (Stp.refl _ _) R2 e2'
          rw [hK]
          refine ⟨b, c, a, a', ws0, zs0, rfl, hw0, hz0, Pst.pure (rel := RelIt C) q2 R2 fun ι3 H3 st3 i s3 R3 e3 => ?_⟩
          obtain ⟨ws, hw, rw'⟩ := hk ι3 H3 st3 s3 R3 e3.1
          obtain ⟨zs, hz, rz⟩ := hk' ι3 H3 st3 s3 R3 e3.2
          refine ⟨fun hi => ⟨ws, zs, hw, hz, ?_⟩, fun dd hd => ?_⟩
          · rw [hi, rw'.length, rz.length]
            exact List.length_zipWith
          · obtain ⟨d0, d1, hd0, hd1, rfl⟩ := zipL_get hd
            obtain ⟨v, hv, rv⟩ := rw'.get hd0
            obtain ⟨v', hv', rv'⟩ := rz.get hd1
            refine ⟨⟨ws, zs, v, v', hw, hz, hv, hv'⟩, fun y H' hy => ?_⟩
            obtain ⟨T, x1, x2, rfl, nT, rfl, hx1, hx2⟩ := hy
            have ev := hx1 ws hw
            rw [hv] at ev
            cases ev
            have ev' := hx2 zs hz
            rw [hv'] at ev'
            cases ev'
            exact ⟨Stp.new1 nT, R3.new1 nT, .tup (.inl ⟨.inl upd_same, R3.fresh nT⟩) (.cons (rv.step (Stp.new1 nT)) (.cons (rv'.step (Stp.new1 nT)) .nil))⟩⟩⟩
end
end Mir

namespace Mir
open PySem PySem.Spec PyProof.Rows L2

/-! ### stores by place -/
def putD (kvs : List (Key × D)) (k : Key) (v : D) : List (Key × D) := if (kvs.any fun kv => decide (kv.1 = k)) = true then kvs.map (fun kv => if kv.1 = k then (kv.1, v) else kv) else kvs ++ [(k, v)]
def setD (o i v : D) : M Unit := fun st => match o with
  | .obj n => match st[n]? with
    | some (.lst xs) => match i with
      | .int k => match ixN xs.length k with
        | some j => .ok () (st.set n (.lst (xs.set j v)))
        | none => .bad
      | _ => .bad
    | some (.dic kvs) => match keyD i with
      | some k => if szOk (kvs.length + 1) then .ok () (st.set n (.dic (putD kvs k v))) else .bad
      | none => .bad
    | _ => .bad
  | _ => .bad
theorem putD_rel {K : PySem.W.Frag} {ι : List Addr} {H : Hp} {v : V} {d : D} (k : Key) (rv : Rp K ι H v d) {ps : List (Key × V)} {kvs : List (Key × D)} (h : Rkv K ι H ps kvs) : Rkv K ι H (putK ps k v) (putD kvs k d) := by
  have anyE : ∀ {ps : List (Key × V)} {kvs : List (Key × D)}, Rkv K ι H ps kvs → (ps.any fun kv => decide (kv.1 = k)) = (kvs.any fun kv => decide (kv.1 = k)) := by
    intro ps kvs h
    induction h with
    | nil => rfl
    | cons r t ih => rw [List.any_cons, List.any_cons, ih, r.1]
  have mapE : ∀ {ps : List (Key × V)} {kvs : List (Key × D)}, Rkv K ι H ps kvs → Rkv K ι H (ps.map fun kv => if kv.1 = k then (kv.1, v) else kv) (kvs.map fun kv => if kv.1 = k then (kv.1, d) else kv) := by
    intro ps kvs h
    induction h with
    | nil => exact .nil
    | @cons p q _ _ r t ih =>
      rw [List.map_cons, List.map_cons]
      refine .cons ?_ ih
      by_cases z : q.1 = k
      · rw [if_pos z, if_pos (r.1.trans z)]
        exact ⟨r.1, rv⟩
      · rw [if_neg z, if_neg (fun w => z (r.1.symm.trans w))]
        exact r
  have appE : ∀ {ps : List (Key × V)} {kvs : List (Key × D)}, Rkv K ι H ps kvs → Rkv K ι H (ps ++ [(k, v)]) (kvs ++ [(k, d)]) := by
    intro ps kvs h
    induction h with
    | nil => exact .cons ⟨rfl, rv⟩ .nil
    | cons r t ih => exact .cons r ih
  unfold putK putD
  rw [anyE h]
  by_cases z : (kvs.any fun kv => decide (kv.1 = k)) = true
  · rw [if_pos z, if_pos z]
    exact mapE h
  · rw [if_neg z, if_neg z]
    exact appE h
def rSetU : V → V → V → Hp → (Hp → Prop) → Prop := fun o i v H Q => rSetL o i v H Q ∨ ∃ a H', o = .ref a ∧ DPut H a i v H' ∧ Q H'
section
variable {X : Cx} {C : Ctx} {E : XK}
theorem set_U (hu : X.A.units + 1 < cLine) : PSet X rSetU := fun pins s σ H o i v ov iv u Q I ro ri rv h => by
  rcases h with h | ⟨a, H', rfl, g, q⟩
  · exact set_list pins s σ H o i v ov iv u Q I ro ri rv h
  · obtain rfl : ov = Value.ref a := ro
    exact d_setItem hu I g ri rv fun s4 I4 => ⟨H', I4, q⟩
theorem rd_setD {α β : Type} {rel : List Addr → Hp → β → α → Prop} {ι : List Addr} {H : Hp} {st : Sto} {o i v : V} {od id vd : D} {f : Unit → M α} {Q : β → Hp → Prop} (R : Rl C ι H st) (ro : Rp C.K ι H o od) (ri : Rp C.K ι H i id) (rv : Rp C.K ι H v vd)
    (q : Pst C rel E ι H Q ((setD od id vd >>= f) st)) : rSetU o i v H fun H' => ∃ st', Stp ι H ι H' ∧ Rl C ι H' st' ∧ Pst C rel E ι H' Q (f () st') := by
  replace q : Pst C rel E ι H Q (Res.andThen (setD od id vd st) f) := q
  cases ro with
  | @obj a n e =>
    have hm : a ∈ ι := List.mem_of_getElem? e
    cases s : st[n]? with
    | none => simp only [setD, s, Res.andThen] at q; exact q.elim
    | some ob =>
      obtain ⟨b, e2, hob⟩ := R.get s
      rw [e] at e2
      cases e2
      cases ob with
      | ins _ _ => simp only [setD, s, Res.andThen] at q; exact q.elim
      | lst xs =>
        obtain ⟨vs, hv, rs⟩ := hob
        cases ri with
        | int k =>
          cases e3 : ixN xs.length k with
          | none => simp only [setD, s, e3, Res.andThen] at q; exact q.elim
          | some j =>
            simp only [setD, s, e3, Res.andThen] at q
            refine .inl ⟨a, vs, k, j, rfl, rfl, hv, by rw [rs.length]; exact e3, _, Stp.put hm, R.put (ob := .lst (xs.set j vd)) e (fun s' => ⟨_, upd_same, (rs.set rv j).step s'⟩), Pst.step q (Stp.put hm)⟩
        | _ => simp only [setD, s, Res.andThen] at q; exact q.elim
      | dic kvs =>
        obtain ⟨ps, hp, rk⟩ := hob
        cases e3 : keyD id with
        | none => simp only [setD, s, e3, Res.andThen] at q; exact q.elim
        | some k =>
          cases c : szOk (kvs.length + 1) with
          | false => simp only [setD, s, e3, c, Res.andThen] at q; exact q.elim
          | true =>
            simp only [setD, s, e3, c, if_true, Res.andThen] at q
            have hl : kvs.length + 1 ≤ sizeLine := of_decide_eq_true c
            rw [key_of ri e3]
            exact .inr ⟨a, _, rfl, DPut.k hp (by rw [rk.length]; exact hl), _, Stp.put hm, R.put (ob := .dic (putD kvs k vd)) e (fun s' => ⟨_, upd_same, (putD_rel k rv rk).step s'⟩), Pst.step q (Stp.put hm)⟩
  | _ => exact q.elim
/-- o[i] = e -/
def sSetI (a o i : Env → M D) : SM := fun env => a env >>= fun v => o env >>= fun ov => i env >>= fun iv => setD ov iv v >>= fun _ => pure (.nx, env)
variable {e o i : Expr} {pos pos' : Pos} {ma mo mi : Env → M D}
theorem s_setI (c : Cap X C E k) (he : PE X e (rdE C E ma)) (ho : PE X o (rdE C E mo)) (hi : PE X i (rdE C E mi))
    (ha : ∀ v, assign (.Subscript o i pos') X.env v = (do
      let ov ← holding [v] (eval o X.env)
      let iv ← holding [v, ov] (eval i X.env)
      standAt pos'
      holding [v, ov, iv] (setItem ov iv v)
      release [v, ov, iv] []) := by intro _; rfl)
    (hs : swapsWithSole [.Subscript o i pos'] e pos.line X.env = pure false := by rfl) (hw : swappedStores [.Subscript o i pos'] e X.env = pure none := by rfl) (h1 : (assignEach [.Subscript o i pos'] X.env).map (·.2) = [assign (.Subscript o i pos') X.env] := by rfl) :
    PS X (.Assign [.Subscript o i pos'] e pos) (rdS C E (sSetI ma mo mi)) :=
  (ps_asg he (pg_sub ho hi (set_U c.u1) ha) hs hw h1).mono fun D σ H ⟨env, ι, st, re, R, q⟩ => ⟨env, ι, st, re, R, (Pst.bind (rel := Rel1 C.K) q).mono fun v H1 ⟨vd, ι1, st1, s1, R1, r1, q1⟩ =>
    ⟨env, ι1, st1, re.step s1, R1, (Pst.bind (rel := Rel1 C.K) q1).mono fun ov H2 ⟨od, ι2, st2, s2, R2, r2, q2⟩ => ⟨env, ι2, st2, re.step (s1.trans s2), R2, (Pst.bind (rel := Rel1 C.K) q2).mono fun iv H3 ⟨idd, ι3, st3, s3, R3, r3, q3⟩ => by
      have h := rd_setD (rel := RelFl C.K) R3 (Rp.step s3 r2) r3 (Rp.step (s2.trans s3) r1) q3
      have re3 := re.step (s1.trans (s2.trans s3))
      rcases h with ⟨p, xs, kk, j, e1, e2, e3, e4, st', s', R', q'⟩ | ⟨p, H', e1, g, st', s', R', q'⟩
      · exact .inl ⟨p, xs, kk, j, e1, e2, e3, e4, (Pst.pure (rel := RelFl C.K) (Q := endQ D) (b := .nx σ) q' R' (re3.step s') : D.nx _ _)⟩
      · exact .inr ⟨p, H', e1, g, (Pst.pure (rel := RelFl C.K) (Q := endQ D) (b := .nx σ) q' R' (re3.step s') : D.nx _ _)⟩⟩⟩⟩
end

/-! ### methods of lists -/
/-- the receiver a list; the arguments; the deed -/
def eLM (f : D → List D → M D) (o : Env → M D) (a : Env → M (List D)) : Env → M D := fun env => o env >>= fun d => (fun st => if (lstOf st d).isSome then .ok () st else .bad : M Unit) >>= fun _ => a env >>= fun ds => f d ds
def MetD (C : Ctx) (r : V → List V → Hp → VK → Prop) (f : D → List D → M D) : Prop := ∀ (E : XK) (ι : List Addr) (H : Hp) (st : Sto) (v : V) (vs : List V) (d : D) (ds : List D) (Q : VK), Rl C ι H st → Rp C.K ι H v d → Rps C.K ι H vs ds → Pst C (Rel1 C.K) E ι H Q (f d ds st) → r v vs H Q
section
variable {X : Cx} {C : Ctx} {E : XK} {k : Nat} {o e : Expr} {es : List Expr} {name : Str} {id : String} {apos cpos : Pos} {mo : Env → M D} {mr : Env → M (List D)} {r : V → List V → Hp → VK → Prop} {f : D → List D → M D}
theorem rd_lm (h : MetD C r f) {σ : L2.St} {H : Hp} {Q : VK} (q : rdE C E (eLM f mo mr) σ H Q) : tBM C.K "list" r (rdE C E mo) (rdA C E mr) σ H Q := by
  obtain ⟨env, ι, st, re, R, q⟩ := q
  refine ⟨env, ι, st, re, R, (Pst.bind (rel := Rel1 C.K) q).mono ?_⟩
  rintro x H1 ⟨d, ι1, st1, s1, R1, r1, q1⟩
  replace q1 : Pst C (Rel1 C.K) E ι1 H1 Q (Res.andThen (if (lstOf st1 d).isSome then Res.ok () st1 else Res.bad) fun _ => mr env >>= fun ds => f d ds) := q1
  cases e1 : lstOf st1 d with
  | none => simp only [e1, Option.isSome_none, Res.andThen] at q1; exact q1.elim
  | some xs =>
    simp only [e1, Option.isSome_some, if_true, Res.andThen] at q1
    obtain ⟨a, vs, rfl, hq, rs⟩ := lst_of R1 r1 e1
    refine ⟨.inl ⟨rfl, vs, .inl hq⟩, env, ι1, st1, re.step s1, R1, (Pst.bind (rel := RelA C.K) q1).mono ?_⟩
    rintro us H2 ⟨ds, ι2, st2, s2, R2, r2, q2⟩
    exact h E ι2 H2 st2 _ us d ds Q R2 (Rp.step s2 r1) r2 q2
theorem met1 {r : V → List V → Hp → VK → Prop} {f : D → D → M D} (h : ∀ (E : XK) (ι : List Addr) (H : Hp) (st : Sto) (v u : V) (d e : D) (Q : VK), Rl C ι H st → Rp C.K ι H v d → Rp C.K ι H u e → Pst C (Rel1 C.K) E ι H Q (f d e st) → r v [u] H Q) : MetD C r (fun d ds => fn1 (f d) ds) := by
  intro E ι H st v vs d ds Q R r1 rs q
  cases rs with
  | nil => exact q.elim
  | cons r2 rs =>
    cases rs with
    | nil => exact h E ι H st _ _ _ _ Q R r1 r2 q
    | cons _ _ => exact q.elim
theorem met2 {r : V → List V → Hp → VK → Prop} {f : D → D → D → M D} (h : ∀ (E : XK) (ι : List Addr) (H : Hp) (st : Sto) (v u w : V) (d e g : D) (Q : VK), Rl C ι H st → Rp C.K ι H v d → Rp C.K ι H u e → Rp C.K ι H w g → Pst C (Rel1 C.K) E ι H Q (f d e g st) → r v [u, w] H Q) : MetD C r (fun d ds => fn2 (f d) ds) := by
  intro E ι H st v vs d ds Q R r1 rs q
  cases rs with
  | nil => exact q.elim
  | cons r2 rs =>
    cases rs with
    | nil => exact q.elim
    | cons r3 rs =>
      cases rs with
      | nil => exact h E ι H st _ _ _ _ _ _ Q R r1 r2 r3 q
      | cons _ _ => exact q.elim
/-- append -/
def appD (d y : D) : M D := match d with
  | .obj n => appO n y >>= fun _ => pure .non
  | _ => bad
theorem md_append : MetD C rAppend fun d ds => fn1 (appD d) ds := met1 fun E ι H st v u d e Q R r1 r2 q => by
  cases r1 with
  | @obj a n e1 =>
    replace q : Pst C (Rel1 C.K) E ι H Q (Res.andThen (appO n e st) fun _ => pure .non) := q
    cases s : st[n]? with
    | none => simp only [appO, s, Res.andThen] at q; exact q.elim
    | some ob =>
      obtain ⟨b, e2, hob⟩ := R.get s
      rw [e1] at e2
      cases e2
      cases ob with
      | lst acc =>
        cases c : szOk (acc.length + 1) with
        | false => simp only [appO, s, c, Res.andThen] at q; exact q.elim
        | true =>
          simp only [appO, s, c, if_true, Res.andThen] at q
          obtain ⟨xs, hx, rx⟩ := hob
          have hz : acc.length + 1 ≤ sizeLine := of_decide_eq_true c
          have sP : Stp ι H ι (upd H a (.lst (xs ++ [u]))) := Stp.put (List.mem_of_getElem? e1)
          exact ⟨a, xs, u, rfl, rfl, hx, by rw [rx.length]; exact hz, Pst.pure (rel := Rel1 C.K) (Pst.step q sP) (R.put (ob := .lst (acc ++ [e])) e1 fun s' => ⟨_, upd_same, (rx.append (.cons r2 .nil)).step s'⟩) .non⟩
      | dic _ => simp only [appO, s, Res.andThen] at q; exact q.elim
      | ins _ _ => simp only [appO, s, Res.andThen] at q; exact q.elim
  | _ => exact q.elim
/-- pop(i) -/
def popD (d y : D) : M D := fun st => match d with
  | .obj n => match st[n]?, y with
    | some (.lst xs), .int i => if rngOk i then (match ixN xs.length i with
      | some j => (match xs[j]? with
        | some e => .ok e (st.set n (.lst (xs.eraseIdx j)))
        | none => .bad)
      | none => .bad) else .bad
    | _, _ => .bad
  | _ => .bad
theorem md_pop : MetD C rPopAt fun d ds => fn1 (popD d) ds := met1 fun E ι H st v u d e Q R r1 r2 q => by
  cases r1 with
  | @obj a n e1 =>
    replace q : Pst C (Rel1 C.K) E ι H Q (popD (.obj n) e st) := q
    cases s : st[n]? with
    | none => simp only [popD, s] at q; exact q.elim
    | some ob =>
      obtain ⟨b, e2, hob⟩ := R.get s
      rw [e1] at e2
      cases e2
      cases ob with
      | lst xs =>
        obtain ⟨vs, hv, rv⟩ := hob
        cases r2 with
        | int i =>
          cases c : rngOk i with
          | false => simp only [popD, s, c] at q; exact q.elim
          | true =>
            cases e3 : ixN xs.length i with
            | none => simp only [popD, s, c, e3] at q; exact q.elim
            | some j =>
              cases e4 : xs[j]? with
              | none => simp only [popD, s, c, e3, e4] at q; exact q.elim
              | some d0 =>
                simp only [popD, s, c, e3, e4, if_true] at q
                obtain ⟨w, hw, rw'⟩ := rv.get e4
                have hb : -(2 ^ 62) ≤ i ∧ i < 2 ^ 62 := of_decide_eq_true c
                have sP : Stp ι H ι (upd H a (.lst (vs.eraseIdx j))) := Stp.put (List.mem_of_getElem? e1)
                refine ⟨a, vs, i, j, w, rfl, rfl, hv, by omega, by omega, ?_, hw, Pst.pure (rel := Rel1 C.K) (Pst.step q sP) (R.put (ob := .lst (xs.eraseIdx j)) e1 fun s' => ⟨_, upd_same, (rv.erase j).step s'⟩) (rw'.step sP)⟩
                rw [rv.length]
                exact (ixN_seq e3).1
        | _ => simp only [popD, s] at q; exact q.elim
      | dic _ => simp only [popD, s] at q; exact q.elim
      | ins _ _ => simp only [popD, s] at q; exact q.elim
  | _ => exact q.elim
/-- insert(i, y) -/
def insD (d i y : D) : M D := fun st => match d with
  | .obj n => match st[n]?, i with
    | some (.lst xs), .int k => if rngOk k && decide (0 ≤ k) && szOk (xs.length + 1) then .ok .non (st.set n (.lst (xs.take k.toNat ++ [y] ++ xs.drop k.toNat))) else .bad
    | _, _ => .bad
  | _ => .bad
def rInsert : V → List V → Hp → VK → Prop := fun x vs H Q => ∃ (l : Addr) (xs : List V) (i : Int) (y : V), x = .ref l ∧ vs = [.int i, y] ∧ H l = some (.lst xs) ∧ xs.length < sizeLine ∧ 0 ≤ i ∧ i < 2 ^ 63 ∧ Q .non (upd H l (.lst (xs.take i.toNat ++ [y] ++ xs.drop i.toNat)))
theorem mtr_insert : MtR X "list.insert" rInsert := mt_insert
theorem md_insert : MetD C rInsert fun d ds => fn2 (insD d) ds := met2 fun E ι H st v u w d e g Q R r1 r2 r3 q => by
  cases r1 with
  | @obj a n e1 =>
    replace q : Pst C (Rel1 C.K) E ι H Q (insD (.obj n) e g st) := q
    cases s : st[n]? with
    | none => simp only [insD, s] at q; exact q.elim
    | some ob =>
      obtain ⟨b, e2, hob⟩ := R.get s
      rw [e1] at e2
      cases e2
      cases ob with
      | lst xs =>
        obtain ⟨vs, hv, rv⟩ := hob
        cases r2 with
        | int i =>
          cases c : (rngOk i && decide (0 ≤ i) && szOk (xs.length + 1)) with
          | false => simp only [insD, s, c] at q; exact q.elim
          | true =>
            simp only [insD, s, c, if_true] at q
            obtain ⟨c1, c2⟩ := Bool.and_eq_true_iff.mp c
            obtain ⟨c3, c4⟩ := Bool.and_eq_true_iff.mp c1
            have hb : -(2 ^ 62) ≤ i ∧ i < 2 ^ 62 := of_decide_eq_true c3
            have h0 : 0 ≤ i := of_decide_eq_true c4
            have hz : xs.length + 1 ≤ sizeLine := of_decide_eq_true c2
            have sP : Stp ι H ι (upd H a (.lst (vs.take i.toNat ++ [w] ++ vs.drop i.toNat))) := Stp.put (List.mem_of_getElem? e1)
            exact ⟨a, vs, i, w, rfl, rfl, hv, by rw [rv.length]; exact hz, h0, by omega, Pst.pure (rel := Rel1 C.K) (Pst.step q sP) (R.put (ob := .lst (xs.take i.toNat ++ [g] ++ xs.drop i.toNat)) e1 fun s' => ⟨_, upd_same, ((((rv.take _).append (.cons r3 .nil)).append (rv.drop _))).step s'⟩) .non⟩
        | _ => simp only [insD, s] at q; exact q.elim
      | dic _ => simp only [insD, s] at q; exact q.elim
      | ins _ _ => simp only [insD, s] at q; exact q.elim
  | _ => exact q.elim
theorem w_lm (c : Cap X C E k) (h : MetD C r f) (pe : PE X e (tBM X.K "list" r (rdE C E mo) (rdA C E mr))) : PE X e (rdE C E (eLM f mo mr)) :=
  pe.mono fun σ H Q q => by
    rw [c.hK]
    exact rd_lm h q
end
/-! ### a, b = x, y -/
section
variable {X : Cx} {C : Ctx} {E : XK} {k : Nat} {a b : Expr} {px py pt pos : Pos} {kt k2 : Nat} {pt2 : Pos} {x y : Str} {ma mb : Env → M D}
theorem s_par (c : Cap X C E k) (i j : Nat) (ha : PE X a (rdE C E ma)) (hb : PE X b (rdE C E mb)) (hij : i ≠ j := by decide) (hi : X.N[i]? = some x := by rfl) (hj : X.N[j]? = some y := by rfl)
    (hx : X.env.scope.names.lookup x = some .local := by rfl) (hy : X.env.scope.names.lookup y = some .local := by rfl)
    (hw : swappedStores [.Tuple [.Name x px, .Name y py] kt pt] (.Tuple [a, b] k2 pt2) X.env = pure (some [x, y]) := by rfl)
    (hs : swapsWithSole [.Tuple [.Name x px, .Name y py] kt pt] (.Tuple [a, b] k2 pt2) pos.line X.env = pure false := by rfl)
    (h1 : starEach [a, b] X.env = (false, eval a X.env) :: starEach [b] X.env := by rfl) (h2 : starEach [b] X.env = (false, eval b X.env) :: starEach [] X.env := by rfl) :
    PS X (.Assign [.Tuple [.Name x px, .Name y py] kt pt] (.Tuple [a, b] k2 pt2) pos) (rdS C E (sPar i j ma mb)) :=
  (ps_par c.calm c.nd hi hj hij hx hy (pa_cons ha (pa_cons hb pa_nil h2) h1) hw hs).mono fun D σ H ⟨env, ι, st, re, R, q⟩ => ⟨env, ι, st, re, R, (Pst.bind (rel := Rel1 C.K) q).mono fun v H1 ⟨d, ι1, st1, s1, R1, r1, q1⟩ =>
    ⟨env, ι1, st1, re.step s1, R1, (Pst.bind (rel := Rel1 C.K) q1).mono fun u H2 ⟨d2, ι2, st2, s2, R2, r2, q2⟩ => ⟨v, u, rfl, (Pst.pure (rel := RelFl C.K) (Q := endQ D) (b := .nx _) q2 R2 (((re.step (s1.trans s2)).set i (Rp.step s2 r1)).set j r2) : D.nx _ _)⟩⟩⟩
/-- x op= e -/
def sAug (i : Nat) (f : D → D → M D) (a : Env → M D) : SM := fun env => match env[i]? with
  | some (some d) => a env >>= fun e => f d e >>= fun z => pure (.nx, env.set i (some z))
  | _ => bad
variable {op : Operator} {f : D → D → M D} {r : R2} {e : Expr} {pos' : Pos}
theorem s_aug (c : Cap X C E k) (i : Nat) (ho : OpR X (inplaceOp op) r) (h : OpD C r f) (he : PE X e (rdE C E ma)) (hi : X.N[i]? = some x := by rfl) (hx : Loc X.env.scope x := by first | exact Or.inl rfl | exact Or.inr rfl) (hf : X.fn x = true ∨ X.env.scope.names.lookup x = some .local := by first | exact .inl rfl | exact .inr rfl) :
    PS X (.AugAssign (.Name x pos') op e pos) (rdS C E (sAug i f ma)) :=
  (ps_aug c.nd hi hx he ho hf).mono fun D σ H ⟨env, ι, st, re, R, q⟩ => by
    cases e1 : env[i]? with
    | none => simp only [sAug, e1] at q; exact q.elim
    | some od =>
      cases od with
      | none => simp only [sAug, e1] at q; exact q.elim
      | some d =>
        simp only [sAug, e1] at q
        obtain ⟨v, hv, rv⟩ := re.at' i d e1
        refine ⟨v, hv, env, ι, st, re, R, (Pst.bind (rel := Rel1 C.K) q).mono fun u H1 ⟨d1, ι1, st1, s1, R1, r1, q1⟩ => ?_⟩
        refine h E ι1 H1 st1 v u d d1 _ R1 (rv.step s1) r1 ((Pst.bind (rel := Rel1 C.K) q1).mono fun z H2 ⟨d2, ι2, st2, s2, R2, r2, q2⟩ => ?_)
        exact (Pst.pure (rel := RelFl C.K) (Q := endQ D) (b := .nx _) q2 R2 ((re.step (s1.trans s2)).set i r2) : D.nx _ _)
theorem op_imulW : OpR X (inplaceOp .Mult) (rI CMulW fun i j => .int (i * j)) := opI fun _ _ _ _ _ _ _ hc q => imul_int q hc.ok
theorem op_ifdiv : OpR X (inplaceOp .FloorDiv) (rI (fun _ j => j ≠ 0 ∧ j.natAbs.log2 < 9000) fun i j => .int (i.fdiv j)) := opI fun _ _ _ _ _ _ _ hc q => ifloordiv_int hc.1 q (.inl (PyProof.noPylong_of_log2 hc.2))
end
end Mir

namespace Mir
open PySem PySem.Spec PyProof.Rows L2

/-! ### in short -/
section
variable {X : Cx} {C : Ctx} {E : XK} {k : Nat} {a b d : Expr} {es : List Expr} {pos p : Pos} {ma mb md : Env → M D} {mr : Env → M (List D)}
theorem w_add (c : Cap X C E k) (ha : PE X a (rdE C E ma)) (hb : PE X b (rdE C E mb)) : PE X (.BinOp a .Add b pos) (rdE C E (eOp addD ma mb)) := w_op op_addU (by rw [c.hK]; exact od_add) ha hb
theorem w_sub (ha : PE X a (rdE C E ma)) (hb : PE X b (rdE C E mb)) : PE X (.BinOp a .Sub b pos) (rdE C E (eOp subD ma mb)) := w_op op_sub od_sub ha hb
theorem w_mul (ha : PE X a (rdE C E ma)) (hb : PE X b (rdE C E mb)) : PE X (.BinOp a .Mult b pos) (rdE C E (eOp mulD ma mb)) := w_op op_mulW od_mul ha hb
theorem w_fdiv (ha : PE X a (rdE C E ma)) (hb : PE X b (rdE C E mb)) : PE X (.BinOp a .FloorDiv b pos) (rdE C E (eOp fdivD ma mb)) := w_op op_fdivD od_fdiv ha hb
theorem w_mod (ha : PE X a (rdE C E ma)) (hb : PE X b (rdE C E mb)) : PE X (.BinOp a .Mod b pos) (rdE C E (eOp modD ma mb)) := w_op op_modN od_mod ha hb
theorem w_pow (ha : PE X a (rdE C E ma)) (hb : PE X b (rdE C E mb)) : PE X (.BinOp a .Pow b pos) (rdE C E (eOp powD ma mb)) := w_op op_pow od_pow ha hb
theorem w_neg (ha : PE X a (rdE C E ma)) : PE X (.UnaryOp .USub a pos) (rdE C E (eUn negD ma)) := w_un un_neg ud_neg ha
/-- list * int, tuple * int, int * int -/
def repD (a b : D) : M D := fun st => match a, b with
  | .int i, .int j => okIf (mulI i j) (.int (i * j)) st
  | .tup xs, .int j => if j = 1 then .ok (.tup xs) st else okIf (!xs.isEmpty && decide (2 ≤ j ∧ j ≤ 1000 ∧ xs.length ≤ 1000)) (.tup (List.replicate j.toNat xs).flatten) st
  | .lst xs, .int j => okIf (rngOk j && szOk (xs.length * j.toNat)) (.lst (List.replicate j.toNat xs).flatten) st
  | _, _ => .bad
theorem tup_mul1 (l : Addr) (items : Array Value) (n : Nat) (dd : Option Addr) (sl : Array (Option Value)) (u : Tok) :
    Meets (Builtin.«tuple.__mul__» ⟨[.ref l, .int 1 u], []⟩) (fun _ R s => s.heap.get? l = some { cls := .type "tuple", dict := dd, data := .seq items n, slots := sl } ∧ R (.ok (.ret (Value.ref l))) s) :=
  .of_wp fun prog w A R s h => by
    obtain ⟨hp, gs, dr, tk, os⟩ := s
    obtain ⟨hl, h⟩ := h
    have fi := AutoSeq1.idx_int
    wp_walk using AutoSeq1.wpAny_loadPart' hl
    exact ⟨_, rfl, h⟩
def rRep1 (K : PySem.W.Frag) : R2 := fun x y H Q => ∃ l xs, x = .ref l ∧ y = .int 1 ∧ SqT K H l xs ∧ Q (.ref l) H
theorem op_rep1 : OpR X (binaryOp .Mult) (rRep1 X.K) := by
  intro pins s σ H x y v u Q I rx ry h
  obtain ⟨l, xs, rfl, rfl, hT, q⟩ := h
  cases rx
  obtain ⟨tk, rfl⟩ := ry
  obtain ⟨us, r, ⟨⟨cc, dd, dt, sl⟩, ho, hc, n, hd⟩, _⟩ := I.tuple hT
  simp only at hc hd
  subst hc hd
  exact wpAny_binaryOp_repeat_ref (T := "tuple") (U := "int") (by decide) ⟨_, ho, rfl⟩ (fun s' => typeIs_int s' 1 tk) noFill_tuple_mul F.fills_int_mul F.slot_int_rmul repeat_tuple F.slot_int_index.lookup
    (call_meets F.slot_int_rmul (typeIs_int s 1 tk) F.entry_int_rmul (F.args_int_rmul_2 _ _) (int_rmul_tuple 1 tk l us.toArray n dd sl)
      ⟨ho, rfl, ⟨_, ho, rfl⟩, call_meets F.slot_tuple_mul ⟨_, ho, rfl⟩ F.entry_tuple_mul (F.args_tuple_mul_2 _ _) (tup_mul1 l us.toArray n dd sl tk) ⟨ho, .ref l, H, I, rfl, q⟩⟩)
def rRepR : R2 := fun x y H Q => ∃ l k xs, x = .ref l ∧ y = .int k ∧ Rd H l (.lst xs) ∧ -(2 ^ 63) ≤ k ∧ k < 2 ^ 63 ∧ xs.length * k.toNat ≤ sizeLine ∧ ∀ p, H p = none → Q (.ref p) (upd H p (.lst (List.replicate k.toNat xs).flatten))
theorem op_repR : OpR X (binaryOp .Mult) rRepR := by
  intro pins s σ H x y v u Q I rx ry h
  obtain ⟨l, k, xs, rfl, rfl, hR, h1, h2, hz, q⟩ := h
  cases rx
  obtain ⟨tk, rfl⟩ := ry
  obtain ⟨z, us, m, r, lu, e⟩ := rd_lst I hR
  have sz : us.toArray.size * k.toNat ≤ sizeLine := by
    rw [List.size_toArray, ← lu]
    exact hz
  have c1 : ¬ us.toArray.size * k.toNat > (2 ^ 63 - 1) / 8 := by
    have w : (sizeLine : Nat) ≤ (2 ^ 63 - 1) / 8 := by decide
    omega
  have c2 : ¬ (!Builtin.List.listFitsIndex k) = true := by
    rw [fitsIndex_both h1 h2]
    decide
  have c3 : ¬ Builtin.List.listTooLong (us.toArray.size * k.toNat) = true := by
    rw [notLongL sz]
    decide
  have fold : ∀ j : Nat, List.foldl (fun a b => a ++ b) #[] (List.replicate j us.toArray) = (List.replicate j us).flatten.toArray := fun j => by
    have w := foldl_rep us j []
    rw [List.nil_append] at w
    exact w
  have made : List.foldl (fun a b => a ++ b) #[] (List.replicate (if us.toArray.isEmpty = true then 0 else k.toNat) us.toArray) = (List.replicate k.toNat us).flatten.toArray := by
    rw [fold]
    cases us with
    | nil => simp
    | cons a t => rw [if_neg (by simp)]
  refine wpAny_binaryOp_repeat_ref (T := "list") (U := "int") (by decide) ⟨_, e, rfl⟩ (fun s' => typeIs_int s' k tk) noFill_list_mul F.fills_int_mul F.slot_int_rmul repeat_list F.slot_int_index.lookup
    (call_meets F.slot_int_rmul (typeIs_int s k tk) F.entry_int_rmul (F.args_int_rmul_2 _ _) (int___rmul___int_list k tk l us.toArray m)
      ⟨e, rfl, ⟨_, e, rfl⟩, call_meets F.slot_list_mul ⟨_, e, rfl⟩ F.entry_list_mul (F.args_list_mul_2 _ _) (AutoListH.list___mul___list_int_3 l us.toArray m k tk c2 c1 c3) ⟨e, ?_⟩⟩)
  rw [made]
  refine ⟨.ref _, _, Inv.lnew (t' := s.toks) I (r.rep k.toNat) ?_, rfl, q _ I.fresh⟩
  rw [PyProof.Rows.lm_len_rep_flat, Nat.mul_comm]
  exact hz
def rRepU (K : PySem.W.Frag) : R2 := fun x y H Q => rI CMulW (fun i j => .int (i * j)) x y H Q ∨ (rRepT K x y H Q ∨ (rRep1 K x y H Q ∨ rRepR x y H Q))
theorem op_repU : OpR X (binaryOp .Mult) (rRepU X.K) := op_mulW.or (op_repT.or (op_rep1.or op_repR))
theorem rps_flat {K : PySem.W.Frag} {ι : List Addr} {H : Hp} {vs : List V} {ds : List D} (r : Rps K ι H vs ds) : ∀ n : Nat, Rps K ι H (List.replicate n vs).flatten (List.replicate n ds).flatten
  | 0 => .nil
  | n + 1 => by
    rw [List.replicate_succ, List.replicate_succ, List.flatten_cons, List.flatten_cons]
    exact r.append (rps_flat r n)
theorem od_rep : OpD C (rRepU C.K) repD := by
  intro E ι H st x y a b Q R rx ry h
  unfold repD at h
  split at h
  · cases rx; cases ry
    obtain ⟨c, h⟩ := okIf_cases h
    rename_i i j _
    exact .inl ⟨_, _, rfl, rfl, of_decide_eq_true (p := i.natAbs.log2 + j.natAbs.log2 < 1000000) c, h.pure R (.int _)⟩
  · rename_i xs j
    cases ry
    cases rx with
    | @tup p vs _ q r =>
      by_cases e1 : j = 1
      · rw [if_pos e1] at h
        subst e1
        exact .inr (.inr (.inl ⟨p, vs, rfl, rfl, q.t, h.pure R (.tup q r)⟩))
      · rw [if_neg e1] at h
        obtain ⟨c, h⟩ := okIf_cases h
        obtain ⟨c1, c2⟩ := Bool.and_eq_true_iff.mp c
        have hb : 2 ≤ j ∧ j ≤ 1000 ∧ xs.length ≤ 1000 := of_decide_eq_true c2
        refine .inr (.inl ⟨p, j, vs, rfl, rfl, q.t, fun z => ?_, hb.1, hb.2.1, by rw [r.length]; exact hb.2.2, fun l nl => new_tup R (rps_flat r _) h nl⟩)
        subst z
        cases r
        cases c1
  · rename_i xs j
    cases ry
    obtain ⟨c, h⟩ := okIf_cases h
    obtain ⟨c1, c2⟩ := Bool.and_eq_true_iff.mp c
    have hb : -(2 ^ 62) ≤ j ∧ j < 2 ^ 62 := of_decide_eq_true c1
    cases rx with
    | @lst p vs _ q r =>
      exact .inr (.inr (.inr ⟨p, j, vs, rfl, rfl, q.1, by omega, by omega, by rw [r.length]; exact of_decide_eq_true c2, fun l nl => new_lst R (rps_flat r _) h nl⟩))
  · exact h.elim
theorem w_rep (c : Cap X C E k) (ha : PE X a (rdE C E ma)) (hb : PE X b (rdE C E mb)) : PE X (.BinOp a .Mult b pos) (rdE C E (eOp repD ma mb)) := w_op op_repU (by rw [c.hK]; exact od_rep) ha hb
theorem w_lt (ha : PE X a (rdE C E ma)) (hb : PE X b (rdE C E mb)) : PE X (.Compare a [.Lt] [b] pos) (rdE C E (eOp ltD ma mb)) := w_cmp op_lt od_lt ha hb (nomark _)
theorem w_le (ha : PE X a (rdE C E ma)) (hb : PE X b (rdE C E mb)) : PE X (.Compare a [.LtE] [b] pos) (rdE C E (eOp leD ma mb)) := w_cmp op_le od_le ha hb (nomark _)
theorem w_gt (ha : PE X a (rdE C E ma)) (hb : PE X b (rdE C E mb)) : PE X (.Compare a [.Gt] [b] pos) (rdE C E (eOp gtD ma mb)) := w_cmp op_gt od_gt ha hb (nomark _)
theorem w_ge (ha : PE X a (rdE C E ma)) (hb : PE X b (rdE C E mb)) : PE X (.Compare a [.GtE] [b] pos) (rdE C E (eOp geD ma mb)) := w_cmp op_ge od_ge ha hb (nomark _)
theorem w_eq (c : Cap X C E k) (ha : PE X a (rdE C E ma)) (hb : PE X b (rdE C E mb)) : PE X (.Compare a [.Eq] [b] pos) (rdE C E (eOp (eqD false) ma mb)) := w_cmp (op_eqU c.u64) (by rw [c.hK]; exact od_eq) ha hb (nomark _)
theorem w_ne (c : Cap X C E k) (ha : PE X a (rdE C E ma)) (hb : PE X b (rdE C E mb)) : PE X (.Compare a [.NotEq] [b] pos) (rdE C E (eOp (eqD true) ma mb)) := w_cmp (op_neU c.u64) (by rw [c.hK]; exact od_eq) ha hb (nomark _)
theorem w_is (ha : PE X a (rdE C E ma)) (hb : PE X b (rdE C E mb)) : PE X (.Compare a [.Is] [b] pos) (rdE C E (eOp (isD false) ma mb)) := w_cmp op_isU od_is ha hb (nomark _)
theorem w_isn (ha : PE X a (rdE C E ma)) (hb : PE X b (rdE C E mb)) : PE X (.Compare a [.IsNot] [b] pos) (rdE C E (eOp (isD true) ma mb)) := w_cmp op_isNotU od_is ha hb (nomark _)
theorem w_in (c : Cap X C E k) (ha : PE X a (rdE C E ma)) (hb : PE X b (rdE C E mb)) (hm : behindInMarks .In b = false := by rfl) : PE X (.Compare a [.In] [b] pos) (rdE C E (eOp (inD false) ma mb)) := w_cmp (op_inU c.u1) (by rw [c.hK]; exact od_in) ha hb hm
theorem w_nin (c : Cap X C E k) (ha : PE X a (rdE C E ma)) (hb : PE X b (rdE C E mb)) (hm : behindInMarks .NotIn b = false := by rfl) : PE X (.Compare a [.NotIn] [b] pos) (rdE C E (eOp (inD true) ma mb)) := w_cmp (op_ninU c.u1) (by rw [c.hK]; exact od_in) ha hb hm
theorem t_lt (ha : PE X a (rdE C E ma)) (hb : PE X b (rdE C E mb)) : PT X (.Compare a [.Lt] [b] pos) (rdT C E (tst (eOp ltD ma mb))) := t_cmp op_lt od_lt ha hb (nomark _)
theorem t_le (ha : PE X a (rdE C E ma)) (hb : PE X b (rdE C E mb)) : PT X (.Compare a [.LtE] [b] pos) (rdT C E (tst (eOp leD ma mb))) := t_cmp op_le od_le ha hb (nomark _)
theorem t_gt (ha : PE X a (rdE C E ma)) (hb : PE X b (rdE C E mb)) : PT X (.Compare a [.Gt] [b] pos) (rdT C E (tst (eOp gtD ma mb))) := t_cmp op_gt od_gt ha hb (nomark _)
theorem t_ge (ha : PE X a (rdE C E ma)) (hb : PE X b (rdE C E mb)) : PT X (.Compare a [.GtE] [b] pos) (rdT C E (tst (eOp geD ma mb))) := t_cmp op_ge od_ge ha hb (nomark _)
theorem t_eq (c : Cap X C E k) (ha : PE X a (rdE C E ma)) (hb : PE X b (rdE C E mb)) : PT X (.Compare a [.Eq] [b] pos) (rdT C E (tst (eOp (eqD false) ma mb))) := t_cmp (op_eqU c.u64) (by rw [c.hK]; exact od_eq) ha hb (nomark _)
theorem t_ne (c : Cap X C E k) (ha : PE X a (rdE C E ma)) (hb : PE X b (rdE C E mb)) : PT X (.Compare a [.NotEq] [b] pos) (rdT C E (tst (eOp (eqD true) ma mb))) := t_cmp (op_neU c.u64) (by rw [c.hK]; exact od_eq) ha hb (nomark _)
theorem t_is (ha : PE X a (rdE C E ma)) (hb : PE X b (rdE C E mb)) : PT X (.Compare a [.Is] [b] pos) (rdT C E (tst (eOp (isD false) ma mb))) := t_cmp op_isU od_is ha hb (nomark _)
theorem t_isn (ha : PE X a (rdE C E ma)) (hb : PE X b (rdE C E mb)) : PT X (.Compare a [.IsNot] [b] pos) (rdT C E (tst (eOp (isD true) ma mb))) := t_cmp op_isNotU od_is ha hb (nomark _)
theorem t_in (c : Cap X C E k) (ha : PE X a (rdE C E ma)) (hb : PE X b (rdE C E mb)) (hm : behindInMarks .In b = false := by rfl) : PT X (.Compare a [.In] [b] pos) (rdT C E (tst (eOp (inD false) ma mb))) := t_cmp (op_inU c.u1) (by rw [c.hK]; exact od_in) ha hb hm
theorem t_nin (c : Cap X C E k) (ha : PE X a (rdE C E ma)) (hb : PE X b (rdE C E mb)) (hm : behindInMarks .NotIn b = false := by rfl) : PT X (.Compare a [.NotIn] [b] pos) (rdT C E (tst (eOp (inD true) ma mb))) := t_cmp (op_ninU c.u1) (by rw [c.hK]; exact od_in) ha hb hm
/-- chains of < and <= on ints -/
theorem w_chain {op op' : CmpOp} {r r' : R2} {f g : D → D → M D} (ho : OpR X (compareOp op) r) (ho' : OpR X (compareOp op') r') (h : OpD C r f) (h' : OpD C r' g) (ha : PE X a (rdE C E ma)) (hb : PE X b (rdE C E mb)) (hd : PE X d (rdE C E md))
    (pe : PE X (.Compare a [op, op'] [b, d] pos) (tChain r r' (rdE C E ma) (rdE C E mb) (rdE C E md))) : PE X (.Compare a [op, op'] [b, d] pos) (rdE C E (eChain f g ma mb md)) := pe.mono fun _ _ _ => rd_chain h h'
theorem w_isi2 : True := trivial
/-- a call of a built-in function or class of one argument -/
theorem w_len (c : Cap X C E k) (hm : X.mg "len" = none) (ha : PE X a (rdE C E ma)) (hg : Gl X "len" := by rfl) (h1 : starEach [a] X.env = (false, eval a X.env) :: starEach [] X.env := by rfl) : PE X (.Call (.Name "len" p) [a] [] pos) (rdE C E (eFn (fn1 lenD) (aCons ma aNil))) := w_callB cr_len (by rw [c.hK]; exact cd_len) hm boot_len (a_cons ha a_nil h1) hg (by decide) (by decide) h1 rfl
theorem w_sum (c : Cap X C E k) (hm : X.mg "sum" = none) (ha : PE X a (rdE C E ma)) (hg : Gl X "sum" := by rfl) (h1 : starEach [a] X.env = (false, eval a X.env) :: starEach [] X.env := by rfl) : PE X (.Call (.Name "sum" p) [a] [] pos) (rdE C E (eFn (fn1 sumD) (aCons ma aNil))) := w_callB (cr_sum c.calm) (by rw [c.hK]; exact cd_sum) hm boot_sum (a_cons ha a_nil h1) hg (by decide) (by decide) h1 rfl
theorem w_all (c : Cap X C E k) (hm : X.mg "all" = none) (ha : PE X a (rdE C E ma)) (hg : Gl X "all" := by rfl) (h1 : starEach [a] X.env = (false, eval a X.env) :: starEach [] X.env := by rfl) : PE X (.Call (.Name "all" p) [a] [] pos) (rdE C E (eFn (fn1 allD) (aCons ma aNil))) := w_callB (cr_all c.calm) (by rw [c.hK]; exact cd_all) hm boot_all (a_cons ha a_nil h1) hg (by decide) (by decide) h1 rfl
theorem w_any (c : Cap X C E k) (hm : X.mg "any" = none) (ha : PE X a (rdE C E ma)) (hg : Gl X "any" := by rfl) (h1 : starEach [a] X.env = (false, eval a X.env) :: starEach [] X.env := by rfl) : PE X (.Call (.Name "any" p) [a] [] pos) (rdE C E (eFn (fn1 anyD) (aCons ma aNil))) := w_callB (cr_any c.calm) (by rw [c.hK]; exact cd_any) hm boot_any (a_cons ha a_nil h1) hg (by decide) (by decide) h1 rfl
theorem w_sorted (c : Cap X C E k) (hm : X.mg "sorted" = none) (ha : PE X a (rdE C E ma)) (hg : Gl X "sorted" := by rfl) (h1 : starEach [a] X.env = (false, eval a X.env) :: starEach [] X.env := by rfl) : PE X (.Call (.Name "sorted" p) [a] [] pos) (rdE C E (eFn (fn1 sortedD) (aCons ma aNil))) := w_callB cr_sortedI (by rw [c.hK]; exact cd_sorted) hm boot_sorted (a_cons ha a_nil h1) hg (by decide) (by decide) h1 rfl
theorem w_abs (hm : X.mg "abs" = none) (ha : PE X a (rdE C E ma)) (hg : Gl X "abs" := by rfl) (h1 : starEach [a] X.env = (false, eval a X.env) :: starEach [] X.env := by rfl) : PE X (.Call (.Name "abs" p) [a] [] pos) (rdE C E (eFn (fn1 absD) (aCons ma aNil))) := w_callB cr_abs cd_abs hm boot_abs (a_cons ha a_nil h1) hg (by decide) (by decide) h1 rfl
theorem w_tuple (c : Cap X C E k) (hm : X.mg "tuple" = none) (ha : PE X a (rdE C E ma)) (hg : Gl X "tuple" := by rfl) (h1 : starEach [a] X.env = (false, eval a X.env) :: starEach [] X.env := by rfl) : PE X (.Call (.Name "tuple" p) [a] [] pos) (rdE C E (eFn (fn1 tupleD) (aCons ma aNil))) := w_callT cr_tuple (by rw [c.hK]; exact cd_tuple) hm boot_tuple (a_cons ha a_nil h1) hg (by decide) (by decide) h1 rfl
theorem w_list (c : Cap X C E k) (hm : X.mg "list" = none) (ha : PE X a (rdE C E ma)) (hg : Gl X "list" := by rfl) (h1 : starEach [a] X.env = (false, eval a X.env) :: starEach [] X.env := by rfl) : PE X (.Call (.Name "list" p) [a] [] pos) (rdE C E (eFn (fn1 listD) (aCons ma aNil))) := w_callT cr_list (by rw [c.hK]; exact cd_list) hm boot_list (a_cons ha a_nil h1) hg (by decide) (by decide) h1 rfl
theorem w_listN (c : Cap X C E k) (hm : X.mg "list" = none) (ha : PE X a (rdE C E ma)) (hg : Gl X "list" := by rfl) (h1 : starEach [a] X.env = (false, eval a X.env) :: starEach [] X.env := by rfl) : PE X (.Call (.Name "list" p) [a] [] pos) (rdE C E (eFn (fn1 listN) (aCons ma aNil))) := w_callT cr_list (by rw [c.hK]; exact cd_listN) hm boot_list (a_cons ha a_nil h1) hg (by decide) (by decide) h1 rfl
theorem w_int1 (hm : X.mg "int" = none) (ha : PE X a (rdE C E ma)) (hg : Gl X "int" := by rfl) (h1 : starEach [a] X.env = (false, eval a X.env) :: starEach [] X.env := by rfl) : PE X (.Call (.Name "int" p) [a] [] pos) (rdE C E (eFn (fn1 intD) (aCons ma aNil))) := w_callT cr_int cd_int hm boot_int (a_cons ha a_nil h1) hg (by decide) (by decide) h1 rfl
theorem w_max (c : Cap X C E k) (hm : X.mg "max" = none) (ha : PE X a (rdE C E ma)) (hb : PE X b (rdE C E mb)) (hg : Gl X "max" := by rfl) (h1 : starEach [a, b] X.env = (false, eval a X.env) :: starEach [b] X.env := by rfl) (h2 : starEach [b] X.env = (false, eval b X.env) :: starEach [] X.env := by rfl) (hpl : (backTo pos (starEach [b] X.env)).any (·.1) = false := by rfl) :
    PE X (.Call (.Name "max" p) [a, b] [] pos) (rdE C E (eFn (fn2 maxD) (aCons ma (aCons mb aNil)))) := w_callB (cr_max2 c.calm) cd_max hm boot_max (a_cons ha (a_cons hb a_nil h2) h1) hg (by decide) (by decide) h1 hpl
theorem w_min (c : Cap X C E k) (hm : X.mg "min" = none) (ha : PE X a (rdE C E ma)) (hb : PE X b (rdE C E mb)) (hg : Gl X "min" := by rfl) (h1 : starEach [a, b] X.env = (false, eval a X.env) :: starEach [b] X.env := by rfl) (h2 : starEach [b] X.env = (false, eval b X.env) :: starEach [] X.env := by rfl) (hpl : (backTo pos (starEach [b] X.env)).any (·.1) = false := by rfl) :
    PE X (.Call (.Name "min" p) [a, b] [] pos) (rdE C E (eFn (fn2 minD) (aCons ma (aCons mb aNil)))) := w_callB (cr_min2 c.calm) cd_min hm boot_min (a_cons ha (a_cons hb a_nil h2) h1) hg (by decide) (by decide) h1 hpl
end

/-! ### defs by name -/
/-- a def as it stands behind the top -/
def Df (K : PySem.W.Frag) (mg : Str → Option Value) (x : Str) (st : Stmt) (ps : List Str) (dus : List Value) : Prop := ∃ f fd, Fun K x x st f fd ∧ mg x = some (.ref f) ∧ Binds K fd ps dus
/-- what a def promises -/
def Pr (P : Program) (w : World) (K : PySem.W.Frag) (mg : Str → Option Value) (base : Heap) (C : Ctx) (x : Str) (j n : Nat) (dus : List Value) (m : List D → M D) : Prop :=
  ∃ f fd ps, FnOk P w K mg base (L2.CX P w) j f fd ps (spM C n m) ∧ mg x = some (.ref f) ∧ PySem.W.keepIn K (.ref f) = true ∧ Binds K fd ps dus
section
variable {P : Program} {w : World} {K : PySem.W.Frag} {mg : Str → Option Value} {base : Heap} {C : Ctx}
theorem pr_mk {x : Str} {st : Stmt} {ps N : List Str} {dus : List Value} {k k' n : Nat} {m : List D → M D} (b : SM) (d : Df K mg x st ps dus) (S : FnScope N ps (defScope st)) (hK : C.K = K) (hn : ps.length = n) (hm : m = runB N.length b) (hk : k' = k + 1)
    (hb : ∀ (f : Addr) (cdv : Value) (A : Around) (outer : List PySem.Env) (s : Shared) (H : Hp) (E : XK), Cap (bodyCx P w K mg base N x st f cdv A outer s H E) C E k →
      PassesOwn (model P w) (bodyCx P w K mg base N x st f cdv A outer s H E).A (bodyCx P w K mg base N x st f cdv A outer s H E).env (bodyCx P w K mg base N x st f cdv A outer s H E).xe →
      PSs (bodyCx P w K mg base N x st f cdv A outer s H E) (defBody st) (rdS C E b)) : Pr P w K mg base C x k' n dus m := by
  obtain ⟨f, fd, F, hg, hbd⟩ := d
  subst hn hm hk
  exact ⟨f, fd, ps, fn_mir C hK F S (fun cdv A outer s H E => hb f cdv A outer s H E), hg, F.kp, hbd⟩
variable {X : Cx} {E : XK} {k j n : Nat} {x : Str} {p pos : Pos} {e : Expr} {es : List Expr} {m : List D → M D} {mr : Env → M (List D)}
/-- a call with all arguments written -/
theorem w_def (c : Cap X C E k) (G : Pr X.prog X.w X.K X.mg X.base C x j n [] m) (hj : j ≤ k) (ha : PA X (e :: es) (rdA C E mr)) (hg : Gl X x := by rfl) (hdb : (x == ("__debug__" : Str)) = false := by decide) (he : starEach (e :: es) X.env = (false, eval e X.env) :: starEach es X.env := by rfl) (hpl : (backTo pos (starEach es X.env)).any (·.1) = false := by rfl) :
    PE X (.Call (.Name x p) (e :: es) [] pos) (rdE C E (eCall n m [] mr)) := by
  obtain ⟨f, fd, ps, F, hm, hk, hb⟩ := G
  exact w_call c F hj hm hk hb .nil (fun _ _ => .nil) ha hg hdb he hpl
end
end Mir

namespace Mir
open PySem PySem.Spec PyProof.Rows L2

/-- as addD, a list's sum being a new object that may change -/
def addN (a b : D) : M D := fun st => match lstOf st a, lstOf st b with
  | some xs, some ys => if szOk (xs.length + ys.length) then allocD (.lst (xs ++ ys)) st else .bad
  | _, _ => .bad
/-- the different ones, in the order of their first places -/
def difI (ns : List Int) : List Int := firstMet (fun i => ns.getD i 0) ns.length
def lenSetD (d : D) : M D := fun st => match lstOf st d with
  | some xs => match asInts xs with
    | some ns => okIf (decide (ns.length ≤ 4000)) (.int (difI ns).length) st
    | none => .bad
  | none => .bad
section
variable {X : Cx} {C : Ctx} {E : XK} {k : Nat} {a b d : Expr} {pos p p2 q : Pos} {ma mb md : Env → M D}
theorem od_addN : OpD C rCatR addN := by
  intro E ι H st x y a b Q R rx ry h
  unfold addN at h
  cases ha : lstOf st a with
  | none => simp only [ha] at h; exact h.elim
  | some xs =>
    cases hb : lstOf st b with
    | none => simp only [ha, hb] at h; exact h.elim
    | some ys =>
      simp only [ha, hb] at h
      cases c : szOk (xs.length + ys.length) with
      | false => simp only [c] at h; exact h.elim
      | true =>
        simp only [c, if_true] at h
        obtain ⟨p1, vs, e1, q1, r1⟩ := lst_of R rx ha
        obtain ⟨p2, ws, e2, q2, r2⟩ := lst_of R ry hb
        exact ⟨p1, p2, vs, ws, e1, e2, q1, q2, by rw [r1.length, r2.length]; exact of_decide_eq_true c, fun p np => new_obj R (r1.append r2) h np⟩
theorem w_addN (ha : PE X a (rdE C E ma)) (hb : PE X b (rdE C E mb)) : PE X (.BinOp a .Add b pos) (rdE C E (eOp addN ma mb)) := w_op op_catR od_addN ha hb
/-- len(set(xs)), ints -/
def tLenSet (K : PySem.W.Frag) (ta : TE) : TE := fun σ H Q => ta σ H fun x H1 => ∃ (l : Addr) (ns : List Int), x = .ref l ∧ SqL K H1 l (ns.map V.int) ∧ ns.length ≤ 4000 ∧ Q (.int (difI ns).length) H1
theorem pe_lenSet {ta : TE} (hg : Gl X "len") (hm : X.mg "len" = none) (hg2 : Gl X "set") (hm2 : X.mg "set" = none) (ha : PE X a ta) (hc : X.calm = true) (na : starEach [a] X.env = (false, eval a X.env) :: starEach [] X.env) : PE X (.Call (.Name "len" p) [.Call (.Name "set" p2) [a] [] q] [] pos) (tLenSet X.K ta) := by
  refine ⟨fun pins s σ H Q I h => ?_⟩
  refine Call_ (ld_blt I hg hm boot_len (PyProof.Rows.callWith_builtin1 (PyProof.Rows.args_cons ?_ rfl) rfl rfl))
  refine Call_ (ld_blt I hg2 hm2 boot_set (PyProof.Rows.callWith_type1 (PyProof.Rows.args_cons (thn (ha.run pins s σ H _ I h) fun v s1 ⟨x, H1, I1, r1, q1⟩ => PyProof.Rows.args_nil ?_) na) na rfl))
  obtain ⟨l, ns, rfl, hq, hl, q1⟩ := q1
  cases r1
  obtain ⟨us, r, pl, _⟩ := I1.list hq
  have el : us.toArray.size = ns.length := by rw [List.size_toArray, ← r.length, List.length_map]
  refine call_set_list (I1.ok.hd hc) pl.isList (by simpa using intsAre_of r) (by rw [el]; unfold scanBound; omega) fun h' tk hS hk => PyProof.Rows.args_nil ?_
  rw [el] at hS
  obtain ⟨o, es, ep, t, ho, hex, hd, _, _, _, hf, hn⟩ := hS
  have I2 : Inv X pins σ H1 { s1 with heap := h', toks := tk } := I1.kept fun b o e => hk b o (Heap.lt_size e) e
  have hz := firstMet_length_le (fun i => ns.getD i 0) ns.length
  exact call_len_set ho hex hd hf (by rw [hn]; show _ < _; have : (sizeLine : Nat) = 16777216 := sizeLine_eq; omega) ⟨.int (difI ns).length, H1, I2.tok _, ⟨_, by rw [hn]; rfl⟩, q1⟩
theorem w_lenSet (c : Cap X C E k) (hm : X.mg "len" = none) (hm2 : X.mg "set" = none) (ha : PE X a (rdE C E ma)) (hg : Gl X "len" := by rfl) (hg2 : Gl X "set" := by rfl) (h1 : starEach [a] X.env = (false, eval a X.env) :: starEach [] X.env := by rfl) :
    PE X (.Call (.Name "len" p) [.Call (.Name "set" p2) [a] [] q] [] pos) (rdE C E (eUn lenSetD ma)) :=
  (pe_lenSet hg hm hg2 hm2 ha c.calm h1).mono fun σ H Q ⟨env, ι, st, re, R, h⟩ => ⟨env, ι, st, re, R, (Pst.bind (rel := Rel1 C.K) h).mono fun x H1 ⟨d, ι1, st1, s1, R1, r1, q1⟩ => by
    replace q1 : Pst C (Rel1 C.K) E ι1 H1 Q (lenSetD d st1) := q1
    unfold lenSetD at q1
    cases e1 : lstOf st1 d with
    | none => simp only [e1] at q1; exact q1.elim
    | some xs =>
      cases e2 : asInts xs with
      | none => simp only [e1, e2] at q1; exact q1.elim
      | some ns =>
        simp only [e1, e2] at q1
        obtain ⟨cc, q2⟩ := okIf_cases q1
        obtain ⟨l, vs, ex, hq, rs⟩ := lst_of R1 r1 e1
        rw [asInts_of e2] at rs
        rw [rs.ints] at hq
        rw [c.hK]
        exact ⟨l, ns, ex, .inl hq, of_decide_eq_true cc, q2.pure R1 (.int _)⟩⟩
theorem w_chLeLt (ha : PE X a (rdE C E ma)) (hb : PE X b (rdE C E mb)) (hd : PE X d (rdE C E md)) (hm : lastMarks [.LtE, .Lt] [b, d] = false := by with_unfolding_all rfl) : PE X (.Compare a [.LtE, .Lt] [b, d] pos) (rdE C E (eChain leD ltD ma mb md)) := w_chain op_le op_lt od_le od_lt ha hb hd (pe_chain op_le op_lt ha hb hd hm)
theorem w_chLeLe (ha : PE X a (rdE C E ma)) (hb : PE X b (rdE C E mb)) (hd : PE X d (rdE C E md)) (hm : lastMarks [.LtE, .LtE] [b, d] = false := by with_unfolding_all rfl) : PE X (.Compare a [.LtE, .LtE] [b, d] pos) (rdE C E (eChain leD leD ma mb md)) := w_chain op_le op_le od_le od_le ha hb hd (pe_chain op_le op_le ha hb hd hm)
theorem rd_chainT {r r' : R2} {f g : D → D → M D} {ma mb mc : Env → M D} (h : OpD C r f) (h' : OpD C r' g) {σ : L2.St} {H : Hp} {Q : Bool → Hp → Prop} (q : rdT C E (tst (eChain f g ma mb mc)) σ H Q) : tTest (tChain r r' (rdE C E ma) (rdE C E mb) (rdE C E mc)) σ H Q := by
  have q' := rd_tst q
  obtain ⟨env, ι, st, re, R, q2⟩ := q'
  exact rd_chain h h' ⟨env, ι, st, re, R, q2⟩
theorem t_chLeLt (ha : PE X a (rdE C E ma)) (hb : PE X b (rdE C E mb)) (hd : PE X d (rdE C E md)) (hm : lastMarks [.LtE, .Lt] [b, d] = false := by with_unfolding_all rfl) : PT X (.Compare a [.LtE, .Lt] [b, d] pos) (rdT C E (tst (eChain leD ltD ma mb md))) := (pt_chain op_le op_lt ha hb hd hm).mono fun _ _ _ => rd_chainT od_le od_lt
theorem t_chLeLe (ha : PE X a (rdE C E ma)) (hb : PE X b (rdE C E mb)) (hd : PE X d (rdE C E md)) (hm : lastMarks [.LtE, .LtE] [b, d] = false := by with_unfolding_all rfl) : PT X (.Compare a [.LtE, .LtE] [b, d] pos) (rdT C E (tst (eChain leD leD ma mb md))) := (pt_chain op_le op_le ha hb hd hm).mono fun _ _ _ => rd_chainT od_le od_le
end
end Mir

namespace Mir
open PySem PySem.Spec PyProof.Rows L2

/-! ### from the head's facts; the end -/
section
variable {P : Program} {w : World} {K : PySem.W.Frag} {mg : Str → Option Value} {base : Heap}
theorem fun_of {x q : Str} {st : Stmt} {f : Addr} {fd : FuncData} (F : FunD K x q (defArgs st) (defBody st) (defScope st) [] [] f fd) : Fun K x q st f fd := by
  obtain ⟨oc, od, dV, kV, doc, pm, an, cdv, ct, osl, e, lk, hc, hd, _⟩ := F.ex
  rcases hd with ⟨_, z⟩ | ⟨z, _⟩
  · subst z
    exact ⟨⟨oc, od, kV, doc, pm, an, cdv, ct, osl, e, lk, hc⟩, F.kp⟩
  · exact absurd rfl z
theorem df_mk {x : Str} {st : Stmt} {ps : List Str} {f : Addr} (h : ∃ fd, FunD K x x (defArgs st) (defBody st) (defScope st) [] [] f fd) (hm : mg x = some (.ref f))
    (hb : ∀ (kV doc pm : Value) (an : Option Addr) (cdv ct : Value) (us : List Value), us.length = ps.length → bindArgs (PySem.W.fnOf x x (defArgs st) (defBody st) (defScope st) .none kV doc pm an cdv ct) ⟨us, []⟩ = pure (ps.zip us)) : Df K mg x st ps [] := by
  obtain ⟨fd, F⟩ := h
  exact ⟨f, fd, fun_of F, hm, (fun_of F).binds hb⟩
/-- a def that lets nothing out -/
theorem fn_calm {k : Nat} {f : Addr} {fd : FuncData} {ps : List Str} {sp : Sp} (F : FnOk P w K mg base (L2.CX P w) k f fd ps sp) : FnOk P w K mg base CX0 k f fd ps fun vs H Q _ => sp vs H Q E0 := by
  refine ⟨fun vs H Q E h => F.len vs H Q E0 h, fun A outer s H args us vs Q E hr he hb hv h => ?_⟩
  refine codeAny_mono (F.run A outer s H args us vs Q E0 hr he hb hv h) fun r s' q => ?_
  cases r with
  | ok fl => cases fl <;> exact q
  | error e =>
    obtain ⟨_, _, _, _, _, _, _, _, _, _, _, _, z⟩ := q
    exact z.elim
theorem law_sp {C : Ctx} {m : List D → M D} {H : Hp} {a : Addr} {ns : List Int} (hS : SqL C.K H a (ns.map V.int)) (h : ∃ st, m [.scr ns] [] = .ok (.bl true) st) : spM C 1 m [.ref a] H (fun v _ => v = .bl true) E0 := by
  obtain ⟨st, e⟩ := h
  refine ⟨[.scr ns], [], [], .cons (.scr ?_) .nil, rfl, ⟨rfl, .nil, fun n o b h1 _ => by simp at h1⟩, ?_⟩
  · rcases hS with z | z
    · exact .inl ⟨z, by simp⟩
    · exact .inr z
  · rw [e]
    intro ι' H' b _ _ r
    cases r
    rfl
end
end Mir

namespace Mir
open PySem PySem.Spec PyProof.Rows L2

/-! ### reasoning about mirrors -/
/-- the mirror ends well, with Q -/
def Wp {α : Type} (m : M α) (st : Sto) (Q : α → Sto → Prop) : Prop := ∃ a st', m st = .ok a st' ∧ Q a st'
section
variable {α β : Type} {m : M α} {f : α → M β} {st : Sto} {Q : α → Sto → Prop} {R : β → Sto → Prop}
theorem Wp.pure {a : α} (h : Q a st) : Wp (pure a) st Q := ⟨a, st, rfl, h⟩
theorem Wp.ok {a : α} {st' : Sto} (e : m st = .ok a st') (h : Q a st') : Wp m st Q := ⟨a, st', e, h⟩
theorem Wp.bind (h : Wp m st fun a st' => Wp (f a) st' R) : Wp (m >>= f) st R := by
  obtain ⟨a, st1, e1, b, st2, e2, r⟩ := h
  refine ⟨b, st2, ?_, r⟩
  rw [bind_def, e1]
  exact e2
theorem Wp.mono {Q' : α → Sto → Prop} (h : Wp m st Q) (i : ∀ a st', Q a st' → Q' a st') : Wp m st Q' := by
  obtain ⟨a, st1, e, q⟩ := h
  exact ⟨a, st1, e, i _ _ q⟩
/-- a value known -/
theorem Wp.step {a : α} {st' : Sto} (e : m st = .ok a st') (h : Wp (f a) st' R) : Wp (m >>= f) st R := Wp.bind ⟨a, st', e, h⟩
end
theorem bind_ok {α β : Type} {m : M α} {f : α → M β} {st st' : Sto} {a : α} (e : m st = .ok a st') : (m >>= f) st = f a st' := by
  rw [bind_def, e]
  rfl
theorem okIf_true {c : Bool} {d : D} {st : Sto} (h : c = true) : okIf c d st = .ok d st := by
  rw [h]
  rfl
theorem szOk_of {n : Nat} (h : n ≤ 1000000) : szOk n = true := decide_eq_true (Nat.le_trans h (by decide))

/-! ### stores that grow -/
/-- all objects but those at S stand as they were -/
structure Kp (S : List Nat) (st st' : Sto) : Prop where
  len : st.length ≤ st'.length
  at' : ∀ (i : Nat) (o : O), i ∉ S → st[i]? = some o → st'[i]? = some o
theorem Kp.refl (S : List Nat) (st : Sto) : Kp S st st := ⟨Nat.le_refl _, fun _ _ _ h => h⟩
theorem Kp.trans {S : List Nat} {a b c : Sto} (x : Kp S a b) (y : Kp S b c) : Kp S a c := ⟨Nat.le_trans x.len y.len, fun i o h e => y.at' i o h (x.at' i o h e)⟩
theorem Kp.more {S T : List Nat} {a b : Sto} (x : Kp S a b) (h : ∀ i ∈ S, i ∈ T) : Kp T a b := ⟨x.len, fun i o n e => x.at' i o (fun z => n (h i z)) e⟩
theorem Kp.app (S : List Nat) (st : Sto) (o : O) : Kp S st (st ++ [o]) := ⟨by simp, fun i u _ e => by rw [List.getElem?_append_left (List.getElem?_eq_some_iff.mp e).1]; exact e⟩
/-- an object made later may change -/
theorem Kp.set {S : List Nat} {a b : Sto} (x : Kp S a b) {n : Nat} (h : a.length ≤ n ∨ n ∈ S) (o : O) : Kp S a (b.set n o) :=
  ⟨by rw [List.length_set]; exact x.len, fun i u hi e => by
    have l := (List.getElem?_eq_some_iff.mp e).1
    rw [List.getElem?_set_ne (fun z => by
      rcases h with h | h
      · omega
      · exact hi (z ▸ h))]
    exact x.at' i u hi e⟩

/-! ### comprehensions -/
theorem appO_ok {n : Nat} {y : D} {st : Sto} {acc : List D} (h : st[n]? = some (.lst acc)) (hz : acc.length + 1 ≤ 1000000) : appO n y st = .ok () (st.set n (.lst (acc ++ [y]))) := by
  simp only [appO, h, szOk_of hz, if_true]
/-- J: by the turn and the list so far, over the whole store -/
theorem wp_lcGo {n : Nat} {t : Tg} {mt : Env → M Bool} {me : Env → M D} {env : Env} {ck : Sto → Prop} (items : List D) (J : Nat → List D → Sto → Prop)
    (hck : ∀ i acc st, J i acc st → ck st) 
    (step : ∀ i d acc st, items[i]? = some d → J i acc st → ∃ env1, tgD t d env = some env1 ∧ Wp (mt env1) st fun c st1 =>
      if c then Wp (me env1) st1 fun y st2 => st2[n]? = some (.lst acc) ∧ acc.length + 1 ≤ 1000000 ∧ J (i + 1) (acc ++ [y]) (st2.set n (.lst (acc ++ [y]))) else J (i + 1) acc st1) :
    ∀ (k : Nat) (acc : List D) (st : Sto), k ≤ items.length → J k acc st → Wp (lcGo n t mt me env ck (items.drop k)) st fun d st' => d = .obj n ∧ ∃ acc', J items.length acc' st' := by
  intro k acc st hk hJ
  by_cases hl : k < items.length
  · have hd : items[k]? = some items[k] := List.getElem?_eq_getElem hl
    rw [List.drop_eq_getElem_cons hl]
    obtain ⟨env1, e1, h1⟩ := step k _ acc st hd hJ
    refine Wp.step (ckM_pos (hck _ _ _ hJ)) ?_
    show Wp (fun st => match tgD t items[k] env with
      | some env1 => (mt env1 >>= fun c => if c then (me env1 >>= fun y => appO n y >>= fun _ => lcGo n t mt me env ck (items.drop (k + 1))) else lcGo n t mt me env ck (items.drop (k + 1))) st
      | none => .bad) st _
    obtain ⟨c, st1, e2, h2⟩ := h1
    have go : Wp (mt env1 >>= fun c => if c then (me env1 >>= fun y => appO n y >>= fun _ => lcGo n t mt me env ck (items.drop (k + 1))) else lcGo n t mt me env ck (items.drop (k + 1))) st fun d st' => d = .obj n ∧ ∃ acc', J items.length acc' st' := by
      refine Wp.step e2 ?_
      cases c with
      | false =>
        simp only [Bool.false_eq_true, if_false] at h2 ⊢
        exact wp_lcGo items J hck step (k + 1) acc st1 hl h2
      | true =>
        simp only [if_true] at h2 ⊢
        obtain ⟨y, st2, e3, g1, g2, g3⟩ := h2
        refine Wp.step e3 (Wp.step (appO_ok g1 g2) ?_)
        exact wp_lcGo items J hck step (k + 1) (acc ++ [y]) _ hl g3
    obtain ⟨a, st', e4, q⟩ := go
    refine ⟨a, st', ?_, q⟩
    simp only [e1]
    exact e4
  · have he : k = items.length := by omega
    subst he
    rw [List.drop_length]
    exact Wp.step (ckM_pos (hck _ _ _ hJ)) (Wp.pure ⟨rfl, acc, hJ⟩)
termination_by k => items.length - k
theorem noX_ok {α : Type} {m : M α} {st st' : Sto} {a : α} (e : m st = .ok a st') : noX m st = .ok a st' := by
  unfold noX
  rw [e]
theorem wp_noX {α : Type} {m : M α} {st : Sto} {Q : α → Sto → Prop} (h : Wp m st Q) : Wp (noX m) st Q := by
  obtain ⟨a, st', e, q⟩ := h
  exact ⟨a, st', noX_ok e, q⟩
/-- the whole comprehension, its source known -/
theorem wp_lc {mi : Env → M Src} {t : Tg} {mt : Env → M Bool} {me : Env → M D} {vs : List Nat} {env : Env} {st st1 : Sto} {src : Src} (hs : mi env st = .ok src st1) (J : Nat → List D → Sto → Prop) (h0 : J 0 [] (st1 ++ [.lst []]))
    (hck : ∀ i acc st, J i acc st → src.2 st)
    (step : ∀ i d acc st, src.1[i]? = some d → J i acc st → ∃ env1, tgD t d (wipeE env vs) = some env1 ∧ Wp (mt env1) st fun c st' =>
      if c then Wp (me env1) st' fun y st2 => st2[st1.length]? = some (.lst acc) ∧ acc.length + 1 ≤ 1000000 ∧ J (i + 1) (acc ++ [y]) (st2.set st1.length (.lst (acc ++ [y]))) else J (i + 1) acc st') :
    Wp (eLC mi t mt me vs env) st fun d st' => d = .obj st1.length ∧ ∃ acc, J src.1.length acc st' := by
  unfold eLC
  refine Wp.step hs ?_
  obtain ⟨a, st', e, q⟩ := wp_lcGo src.1 J hck step 0 [] _ (Nat.zero_le _) h0
  exact ⟨a, st', noX_ok e, q⟩
/-- each element a function of the item, found out without a change of what stood: all of them -/
theorem wp_lc_map {mi : Env → M Src} {t : Tg} {me : Env → M D} {vs : List Nat} {env : Env} {st : Sto} {src : Src} (hs : mi env st = .ok src st) (S : List Nat) (f : D → D) (hS : ∀ i ∈ S, i < st.length) (hz : src.1.length ≤ 1000000)
    (hck : ∀ st', Kp [] st st' → src.2 st')
    (step : ∀ d ∈ src.1, ∀ st1, Kp [] st st1 → ∃ env1, tgD t d (wipeE env vs) = some env1 ∧ Wp (me env1) st1 fun y st2 => y = f d ∧ Kp [] st1 st2) :
    Wp (eLC mi t (fun _ => pure true) me vs env) st fun d st' => d = .obj st.length ∧ Kp [] st st' ∧ st'[st.length]? = some (.lst (src.1.map f)) := by
  refine (wp_lc hs (fun i acc st' => Kp [] st st' ∧ st'[st.length]? = some (.lst acc) ∧ acc = (src.1.take i).map f) ?_ (fun i acc st' h => hck st' h.1) ?_).mono fun d st' h => ?_
  · exact ⟨Kp.app _ _ _, by rw [List.getElem?_append_right (Nat.le_refl _), Nat.sub_self]; rfl, rfl⟩
  · rintro i d acc st1 hd ⟨k1, e1, e2⟩
    obtain ⟨env1, t1, y, st2, w1, rfl, k2⟩ := step d (List.mem_of_getElem? hd) st1 k1
    have hi := (List.getElem?_eq_some_iff.mp hd).1
    refine ⟨env1, t1, Wp.pure ?_⟩
    rw [if_pos rfl]
    refine ⟨f d, st2, w1, k2.at' _ _ (by simp) e1, ?_, ?_, ?_, ?_⟩
    · rw [e2, List.length_map, List.length_take]
      omega
    · exact (k1.trans k2).set (.inl (Nat.le_refl _)) _
    · rw [List.getElem?_set_self]
      exact (List.getElem?_eq_some_iff.mp (k2.at' _ _ (by simp) e1)).1
    · rw [e2, List.take_add_one, hd, List.map_append]
      rfl
  · obtain ⟨rfl, acc, k, e1, e2⟩ := h
    rw [List.take_length] at e2
    exact ⟨rfl, k, by rw [e1, e2]⟩

/-! ### loops -/
/-- what a turn is to reach -/
def TurnQ (J : Env → Sto → Prop) (Q : Fl × Env → Sto → Prop) (r : Fl × Env) (st : Sto) : Prop := match r.1 with
  | .nx => J r.2 st
  | .cnt => J r.2 st
  | .brk => Q (.nx, r.2) st
  | .ret _ => Q r st
theorem wp_forL {body : D → SM} {ck : Sto → Prop} (items : List D) (J : Nat → Env → Sto → Prop) (Q : Fl × Env → Sto → Prop) (hck : ∀ i env st, J i env st → ck st)
    (step : ∀ i d env st, items[i]? = some d → J i env st → Wp (body d env) st (TurnQ (J (i + 1)) Q)) (fin : ∀ env st, J items.length env st → Q (.nx, env) st) :
    ∀ (k : Nat) (env : Env) (st : Sto), k ≤ items.length → J k env st → Wp (forL body ck (items.drop k) env) st Q := by
  intro k env st hk hJ
  by_cases hl : k < items.length
  · have hd : items[k]? = some items[k] := List.getElem?_eq_getElem hl
    rw [List.drop_eq_getElem_cons hl]
    refine Wp.step (ckM_pos (hck _ _ _ hJ)) ?_
    obtain ⟨⟨fl, env1⟩, st1, e1, q1⟩ := step k _ env st hd hJ
    refine Wp.step e1 ?_
    cases fl with
    | nx => exact wp_forL items J Q hck step fin (k + 1) env1 st1 hl q1
    | cnt => exact wp_forL items J Q hck step fin (k + 1) env1 st1 hl q1
    | brk => exact Wp.pure q1
    | ret v => exact Wp.pure q1
  · have he : k = items.length := by omega
    subst he
    rw [List.drop_length]
    exact Wp.step (ckM_pos (hck _ _ _ hJ)) (Wp.pure (fin _ _ hJ))
termination_by k => items.length - k
theorem wp_for {mi : Env → M Src} {t : Tg} {b : SM} {env : Env} {st st1 : Sto} {src : Src} (hs : mi env st = .ok src st1) (J : Nat → Env → Sto → Prop) (Q : Fl × Env → Sto → Prop) (h0 : J 0 env st1) (hck : ∀ i env st, J i env st → src.2 st)
    (step : ∀ i d env st, src.1[i]? = some d → J i env st → ∃ env1, tgD t d env = some env1 ∧ Wp (b env1) st (TurnQ (J (i + 1)) Q)) (fin : ∀ env st, J src.1.length env st → Q (.nx, env) st) : Wp (sFor mi t b env) st Q := by
  unfold sFor
  refine Wp.step hs ?_
  refine wp_forL src.1 J Q hck (fun i d env st hd hJ => ?_) fin 0 env st1 (Nat.zero_le _) h0
  obtain ⟨env1, e1, r, st', e2, q⟩ := step i d env st hd hJ
  refine ⟨r, st', ?_, q⟩
  unfold inTg
  simp only [e1]
  exact e2
theorem whN_more {c : Env → M Bool} {b : SM} : ∀ (n : Nat) (env : Env) (st : Sto), whN c b n env st ≠ .bad → whN c b (n + 1) env st = whN c b n env st
  | 0, env, st, h => absurd rfl h
  | n + 1, env, st, h => by
    show (c env >>= fun t => if t then (b env >>= fun r => match r.1 with
      | .nx => whN c b (n + 1) r.2
      | .cnt => whN c b (n + 1) r.2
      | .brk => pure (.nx, r.2)
      | .ret _ => pure r) else pure (.nx, env)) st = (c env >>= fun t => if t then (b env >>= fun r => match r.1 with
      | .nx => whN c b n r.2
      | .cnt => whN c b n r.2
      | .brk => pure (.nx, r.2)
      | .ret _ => pure r) else pure (.nx, env)) st
    replace h : (c env >>= fun t => if t then (b env >>= fun r => match r.1 with
      | .nx => whN c b n r.2
      | .cnt => whN c b n r.2
      | .brk => pure (.nx, r.2)
      | .ret _ => pure r) else pure (.nx, env)) st ≠ .bad := h
    rw [bind_def] at h ⊢
    rw [bind_def]
    cases e : c env st with
    | bad => rfl
    | exc x s => rfl
    | ok t st1 =>
      rw [e] at h
      cases t with
      | false => rfl
      | true =>
        replace h : (b env >>= fun r => match r.1 with
          | .nx => whN c b n r.2
          | .cnt => whN c b n r.2
          | .brk => pure (.nx, r.2)
          | .ret _ => pure r) st1 ≠ .bad := h
        show (b env >>= fun r => match r.1 with
          | .nx => whN c b (n + 1) r.2
          | .cnt => whN c b (n + 1) r.2
          | .brk => pure (.nx, r.2)
          | .ret _ => pure r) st1 = (b env >>= fun r => match r.1 with
          | .nx => whN c b n r.2
          | .cnt => whN c b n r.2
          | .brk => pure (.nx, r.2)
          | .ret _ => pure r) st1
        rw [bind_def] at h ⊢
        rw [bind_def]
        cases e2 : b env st1 with
        | bad => rfl
        | exc x s => rfl
        | ok r st2 =>
          rw [e2] at h
          obtain ⟨fl, env2⟩ := r
          cases fl with
          | nx => exact whN_more n env2 st2 h
          | cnt => exact whN_more n env2 st2 h
          | brk => rfl
          | ret v => rfl
theorem whN_ge {c : Env → M Bool} {b : SM} {n : Nat} {env : Env} {st : Sto} (h : whN c b n env st ≠ .bad) : ∀ k, whN c b (n + k) env st = whN c b n env st
  | 0 => rfl
  | k + 1 => by
    have ih := whN_ge h k
    rw [← Nat.add_assoc, whN_more (n + k) env st (by rw [ih]; exact h), ih]
theorem sWhile_of {c : Env → M Bool} {b : SM} {n : Nat} {env : Env} {st : Sto} (h : whN c b n env st ≠ .bad) : sWhile c b env st = whN c b n env st := by
  unfold sWhile
  have hx : ∃ n, whN c b n env st ≠ .bad := ⟨n, h⟩
  rw [dif_pos hx]
  have h2 := Classical.choose_spec hx
  have a := whN_ge h (Classical.choose hx)
  have b' := whN_ge h2 n
  rw [Nat.add_comm] at b'
  exact b'.symm.trans a
theorem wp_whN {c : Env → M Bool} {b : SM} (J : Env → Sto → Prop) (μ : Env → Sto → Nat) (Q : Fl × Env → Sto → Prop)
    (step : ∀ env st, J env st → Wp (c env) st fun t st1 => if t then Wp (b env) st1 (TurnQ (fun e s => J e s ∧ μ e s < μ env st) Q) else Q (.nx, env) st1) :
    ∀ (n : Nat) (env : Env) (st : Sto), J env st → μ env st < n → Wp (whN c b n env) st Q
  | 0, env, st, _, h => absurd h (Nat.not_lt_zero _)
  | n + 1, env, st, hJ, h => by
    obtain ⟨t, st1, e1, q1⟩ := step env st hJ
    show Wp (c env >>= fun t => if t then (b env >>= fun r => match r.1 with
      | .nx => whN c b n r.2
      | .cnt => whN c b n r.2
      | .brk => pure (.nx, r.2)
      | .ret _ => pure r) else pure (.nx, env)) st Q
    refine Wp.step e1 ?_
    cases t with
    | false => exact Wp.pure q1
    | true =>
      obtain ⟨⟨fl, env2⟩, st2, e2, q2⟩ := (show Wp (b env) st1 (TurnQ (fun e s => J e s ∧ μ e s < μ env st) Q) from q1)
      refine Wp.step e2 ?_
      cases fl with
      | nx => exact wp_whN J μ Q step n env2 st2 q2.1 (Nat.lt_of_lt_of_le q2.2 (Nat.le_of_lt_succ h))
      | cnt => exact wp_whN J μ Q step n env2 st2 q2.1 (Nat.lt_of_lt_of_le q2.2 (Nat.le_of_lt_succ h))
      | brk => exact Wp.pure q2
      | ret v => exact Wp.pure q2
theorem wp_while {c : Env → M Bool} {b : SM} (J : Env → Sto → Prop) (μ : Env → Sto → Nat) (Q : Fl × Env → Sto → Prop) {env : Env} {st : Sto} (h0 : J env st)
    (step : ∀ env st, J env st → Wp (c env) st fun t st1 => if t then Wp (b env) st1 (TurnQ (fun e s => J e s ∧ μ e s < μ env st) Q) else Q (.nx, env) st1) : Wp (sWhile c b env) st Q := by
  obtain ⟨a, st', e, q⟩ := wp_whN J μ Q step (μ env st + 1) env st h0 (Nat.lt_succ_self _)
  exact ⟨a, st', (sWhile_of (by rw [e]; exact fun z => nomatch z)).trans e, q⟩

/-! ### statements -/
/-- a statement, then the rest -/
theorem wp_seq {a b : SM} {env : Env} {st : Sto} {Q : Fl × Env → Sto → Prop} (h : Wp (a env) st fun r st' => match r.1 with
    | .nx => Wp (b r.2) st' Q
    | _ => Q r st') : Wp (sSeq a b env) st Q := by
  obtain ⟨⟨fl, env1⟩, st1, e, q⟩ := h
  unfold sSeq
  refine Wp.step e ?_
  cases fl with
  | nx => exact q
  | brk => exact Wp.pure q
  | cnt => exact Wp.pure q
  | ret v => exact Wp.pure q
/-- a statement that stores and goes on -/
theorem wp_seq1 {a b : SM} {env env1 : Env} {st st1 : Sto} {Q : Fl × Env → Sto → Prop} (e : a env st = .ok (.nx, env1) st1) (h : Wp (b env1) st1 Q) : Wp (sSeq a b env) st Q := wp_seq ⟨_, _, e, h⟩
theorem wp_run {n : Nat} {b : SM} {ds : List D} {st : Sto} {Q : D → Sto → Prop} (h : Wp (b (ds.map some ++ List.replicate (n - ds.length) none)) st fun r st' => match r.1 with
    | .ret d => Q d st'
    | .nx => Q .non st'
    | _ => False) : Wp (runB n b ds) st Q := by
  obtain ⟨⟨fl, env1⟩, st1, e, q⟩ := h
  unfold runB
  refine Wp.step e ?_
  cases fl with
  | nx => exact Wp.pure q
  | ret v => exact Wp.pure q
  | brk => exact q.elim
  | cnt => exact q.elim
theorem set_ok {i : Nat} {a : Env → M D} {env : Env} {st st1 : Sto} {d : D} (e : a env st = .ok d st1) : sSet (.name i) a env st = .ok (.nx, env.set i (some d)) st1 := by
  unfold sSet
  exact (bind_ok e).trans rfl
theorem ret_ok {a : Env → M D} {env : Env} {st st1 : Sto} {d : D} (e : a env st = .ok d st1) : sRet a env st = .ok (.ret d, env) st1 := by
  unfold sRet
  rw [bind_ok e]
  rfl
theorem wp_ret {a : Env → M D} {env : Env} {st : Sto} {Q : Fl × Env → Sto → Prop} (h : Wp (a env) st fun d st' => Q (.ret d, env) st') : Wp (sRet a env) st Q := by
  obtain ⟨d, st1, e, q⟩ := h
  exact ⟨_, _, ret_ok e, q⟩
theorem wp_set {i : Nat} {a : Env → M D} {env : Env} {st : Sto} {Q : Fl × Env → Sto → Prop} (h : Wp (a env) st fun d st' => Q (.nx, env.set i (some d)) st') : Wp (sSet (.name i) a env) st Q := by
  obtain ⟨d, st1, e, q⟩ := h
  exact ⟨_, _, set_ok e, q⟩
theorem wp_if {t : Env → M Bool} {a b : SM} {env : Env} {st : Sto} {Q : Fl × Env → Sto → Prop} (h : Wp (t env) st fun c st' => if c then Wp (a env) st' Q else Wp (b env) st' Q) : Wp (sIf t a b env) st Q := by
  obtain ⟨c, st1, e, q⟩ := h
  unfold sIf
  refine Wp.step e ?_
  cases c <;> exact q
end Mir

namespace Mir
open PySem PySem.Spec PyProof.Rows L2

/-! ### one rule a construct -/
section
variable {env : Env} {st : Sto} {Q : D → Sto → Prop} {R : Bool → Sto → Prop} {a b c : Env → M D} {f g : D → D → M D} {ta tb : Env → M Bool} {d e : D} {mr : Env → M (List D)}
theorem wp_var {i : Nat} (h : env[i]? = some (some d)) (q : Q d st) : Wp (eVar i env) st Q := ⟨d, st, by simp only [eVar, h]; rfl, q⟩
theorem wp_c (q : Q d st) : Wp (eC d env) st Q := ⟨d, st, rfl, q⟩
theorem wp_op (h : Wp (a env) st fun x st1 => Wp (b env) st1 fun y st2 => Wp (f x y) st2 Q) : Wp (eOp f a b env) st Q := Wp.bind (h.mono fun _ _ q => Wp.bind q)
theorem wp_un {f : D → M D} (h : Wp (a env) st fun x st1 => Wp (f x) st1 Q) : Wp (eUn f a env) st Q := Wp.bind h
theorem wp_and (h : Wp (a env) st fun x st1 => ∃ k, x = .bl k ∧ if k then Wp (b env) st1 Q else Q (.bl false) st1) : Wp (eAnd a b env) st Q := Wp.bind (h.mono fun x st1 ⟨k, e, q⟩ => by
  subst e
  refine Wp.step (a := k) rfl ?_
  cases k with
  | true => exact q
  | false => exact Wp.pure q)
theorem wp_or (h : Wp (a env) st fun x st1 => ∃ k, x = .bl k ∧ if k then Q (.bl true) st1 else Wp (b env) st1 Q) : Wp (eOr a b env) st Q := Wp.bind (h.mono fun x st1 ⟨k, e, q⟩ => by
  subst e
  refine Wp.step (a := k) rfl ?_
  cases k with
  | true => exact Wp.pure q
  | false => exact q)
theorem wp_not (h : Wp (a env) st fun x st1 => ∃ k, x = .bl k ∧ Q (.bl (!k)) st1) : Wp (eNot a env) st Q := Wp.bind (h.mono fun x st1 ⟨k, e, q⟩ => by
  subst e
  exact Wp.step (a := k) rfl (Wp.pure q))
theorem wp_tst (h : Wp (a env) st fun x st1 => ∃ k, x = .bl k ∧ R k st1) : Wp (tst a env) st R := Wp.bind (h.mono fun x st1 ⟨k, e, q⟩ => by
  subst e
  exact ⟨k, st1, rfl, q⟩)
theorem wp_tand (h : Wp (ta env) st fun k st1 => if k then Wp (tb env) st1 R else R false st1) : Wp (tAndM ta tb env) st R := Wp.bind (h.mono fun k st1 q => by
  cases k with
  | true => exact q
  | false => exact Wp.pure q)
theorem wp_tor (h : Wp (ta env) st fun k st1 => if k then R true st1 else Wp (tb env) st1 R) : Wp (tOrM ta tb env) st R := Wp.bind (h.mono fun k st1 q => by
  cases k with
  | true => exact Wp.pure q
  | false => exact q)
theorem wp_tnot (h : Wp (ta env) st fun k st1 => R (!k) st1) : Wp (tNotM ta env) st R := Wp.bind (h.mono fun k st1 q => Wp.pure q)
theorem wp_ife (h : Wp (ta env) st fun k st1 => if k then Wp (a env) st1 Q else Wp (b env) st1 Q) : Wp (eIf ta a b env) st Q := Wp.bind (h.mono fun k st1 q => by cases k <;> exact q)
theorem wp_chain (h : Wp (a env) st fun x st1 => Wp (b env) st1 fun y st2 => Wp (f x y) st2 fun z st3 => ∃ k, z = .bl k ∧ if k then Wp (c env) st3 fun u st4 => Wp (g y u) st4 Q else Q (.bl false) st3) : Wp (eChain f g a b c env) st Q :=
  Wp.bind (h.mono fun x st1 q => Wp.bind (q.mono fun y st2 q => Wp.bind (q.mono fun z st3 ⟨k, e, q⟩ => by
    subst e
    refine Wp.step (a := k) rfl ?_
    cases k with
    | true => exact Wp.bind q
    | false => exact Wp.pure q)))
theorem wa_nil {S : List D → Sto → Prop} (q : S [] st) : Wp (aNil env) st S := ⟨[], st, rfl, q⟩
theorem wa_cons {S : List D → Sto → Prop} (h : Wp (a env) st fun x st1 => Wp (mr env) st1 fun xs st2 => S (x :: xs) st2) : Wp (aCons a mr env) st S := Wp.bind (h.mono fun x st1 q => Wp.bind (q.mono fun xs st2 q => Wp.pure q))
theorem wp_tup (h : Wp (mr env) st fun xs st1 => xs.length ≤ 1000000 ∧ Q (.tup xs) st1) : Wp (eTup mr env) st Q := Wp.bind (h.mono fun xs st1 q => ⟨_, _, okIf_true (szOk_of q.1), q.2⟩)
theorem wp_lst (h : Wp (mr env) st fun xs st1 => xs.length ≤ 1000000 ∧ Q (.lst xs) st1) : Wp (eLst mr env) st Q := Wp.bind (h.mono fun xs st1 q => ⟨_, _, okIf_true (szOk_of q.1), q.2⟩)
theorem wp_new (h : Wp (mr env) st fun xs st1 => xs.length ≤ 1000000 ∧ Q (.obj st1.length) (st1 ++ [.lst xs])) : Wp (eNew mr env) st Q := Wp.bind (h.mono fun xs st1 q => ⟨_, _, by simp only [szOk_of q.1, if_true, allocD], q.2⟩)
theorem wp_fn {f : List D → M D} (h : Wp (mr env) st fun xs st1 => Wp (f xs) st1 Q) : Wp (eFn f mr env) st Q := Wp.bind h
theorem wp_fn1 {f : D → M D} (h : Wp (f d) st Q) : Wp (fn1 f [d]) st Q := h
theorem wp_fn2 {f : D → D → M D} (h : Wp (f d e) st Q) : Wp (fn2 f [d, e]) st Q := h
theorem wp_call {n : Nat} {m : List D → M D} (h : Wp (mr env) st fun xs st1 => xs.length = n ∧ Wp (m xs) st1 Q) : Wp (eCall n m [] mr env) st Q := Wp.bind (h.mono fun xs st1 q => by
  obtain ⟨y, st2, e, w⟩ := q.2
  refine ⟨y, st2, ?_, w⟩
  rw [List.append_nil, if_pos q.1]
  exact e)
theorem wp_addI {i j : Int} (q : Q (.int (i + j)) st) : Wp (addD (.int i) (.int j)) st Q := ⟨_, _, rfl, q⟩
theorem wp_subI {i j : Int} (q : Q (.int (i - j)) st) : Wp (subD (.int i) (.int j)) st Q := ⟨_, _, rfl, q⟩
theorem wp_mulI {i j : Int} (h : i.natAbs.log2 + j.natAbs.log2 < 1000000) (q : Q (.int (i * j)) st) : Wp (mulD (.int i) (.int j)) st Q := ⟨_, _, okIf_true (decide_eq_true h), q⟩
theorem wp_modI {i j : Int} (h : j ≠ 0) (q : Q (.int (i.fmod j)) st) : Wp (modD (.int i) (.int j)) st Q := ⟨_, _, okIf_true (decide_eq_true h), q⟩
theorem wp_divI {i j : Int} (h : j ≠ 0) (h2 : j.natAbs.log2 < 9000) (q : Q (.int (i.fdiv j)) st) : Wp (fdivD (.int i) (.int j)) st Q := ⟨_, _, okIf_true (decide_eq_true ⟨h, h2⟩), q⟩
theorem wp_powI {i j : Int} (h : 0 ≤ j ∧ j ≤ 1000000 ∧ i.natAbs < 2 ^ 64) (q : Q (.int (i ^ j.toNat)) st) : Wp (powD (.int i) (.int j)) st Q := ⟨_, _, okIf_true (decide_eq_true h), q⟩
theorem wp_negI {i : Int} (q : Q (.int (-i)) st) : Wp (negD (.int i)) st Q := ⟨_, _, rfl, q⟩
theorem wp_ltI {i j : Int} (q : Q (.bl (decide (i < j))) st) : Wp (ltD (.int i) (.int j)) st Q := ⟨_, _, rfl, q⟩
theorem wp_leI {i j : Int} (q : Q (.bl (decide (i ≤ j))) st) : Wp (leD (.int i) (.int j)) st Q := ⟨_, _, rfl, q⟩
theorem wp_gtI {i j : Int} (q : Q (.bl (decide (j < i))) st) : Wp (gtD (.int i) (.int j)) st Q := ⟨_, _, rfl, q⟩
theorem wp_geI {i j : Int} (q : Q (.bl (decide (j ≤ i))) st) : Wp (geD (.int i) (.int j)) st Q := ⟨_, _, rfl, q⟩
/-- a truth that must be one -/
theorem ex_bl {k : Bool} {P : Bool → Prop} (h : P k) : ∃ k', D.bl k = .bl k' ∧ P k' := ⟨k, rfl, h⟩
theorem if_bl {p : Prop} [Decidable p] {A B : Prop} (h1 : p → A) (h2 : ¬ p → B) : if decide p = true then A else B := by
  by_cases h : p
  · rw [if_pos (decide_eq_true h)]; exact h1 h
  · rw [if_neg (by simpa using h)]; exact h2 h
theorem if_tt {A B : Prop} (h : A) : if true = true then A else B := h
theorem if_ff {A B : Prop} (h : B) : if false = true then A else B := h
/-- the n-th item -/
theorem wp_ixL {xs : List D} {i : Int} (hs : seqOf st d = some xs) (h : atI xs i = some e) (q : Q e st) : Wp (ixD d (.int i)) st Q := ⟨e, st, by simp only [ixD, hs, h], q⟩
theorem wp_len {xs : List D} (hs : seqOf st d = some xs) (q : Q (.int xs.length) st) : Wp (lenD d) st Q := ⟨_, st, by simp only [lenD, hs], q⟩
theorem wp_isi {T t : String} (ht : tyD st d = some t) (hk : kitOk t T = true) (q : Q (.bl (subT t T)) st) : Wp (isiD [T] d) st Q := ⟨_, st, by simp only [isiD, ht, List.all_cons, List.all_nil, Bool.and_true, List.any_cons, List.any_nil, Bool.or_false]; exact okIf_true hk, q⟩
end

/-! ### equality -/
theorem eqD_int (neg : Bool) (i j : Int) (st : Sto) : eqD neg (.int i) (.int j) st = .ok (.bl (if neg then !(i == j) else (i == j))) st := by
  simp only [eqD, resolve, toPy, PyData.eqv]
  exact okIf_true rfl
theorem wp_eqI {neg : Bool} {i j : Int} {st : Sto} {Q : D → Sto → Prop} (q : Q (.bl (if neg then !(i == j) else (i == j))) st) : Wp (eqD neg (.int i) (.int j)) st Q := ⟨_, _, eqD_int neg i j st, q⟩

/-! ### draws -/
/-- the stream at a, its cells at b, at most k draws so far -/
def Strm (a b k : Nat) (st : Sto) : Prop := ∃ (ns : List Int) (x c r : Int), st[a]? = some (.lst [.obj b, .int x, .int c, .int r]) ∧ st[b]? = some (.lst (ns.map .int)) ∧ 0 ≤ x ∧ 0 ≤ c ∧ c ≤ k ∧ 0 ≤ r ∧ r < 2147483647 ∧ a ≠ b
theorem setD_lst {n : Nat} {xs : List D} {k : Int} {j : Nat} {v : D} {st : Sto} (h : st[n]? = some (.lst xs)) (hj : ixN xs.length k = some j) : setD (.obj n) (.int k) v st = .ok () (st.set n (.lst (xs.set j v))) := by
  simp only [setD, h, hj]
theorem wp_setI {a o i : Env → M D} {env : Env} {st : Sto} {Q : Fl × Env → Sto → Prop} (h : Wp (a env) st fun v st1 => Wp (o env) st1 fun ov st2 => Wp (i env) st2 fun iv st3 => Wp (setD ov iv v) st3 fun _ st4 => Q (.nx, env) st4) : Wp (sSetI a o i env) st Q :=
  Wp.bind (h.mono fun v st1 q => Wp.bind (q.mono fun ov st2 q => Wp.bind (q.mono fun iv st3 q => Wp.bind (q.mono fun _ st4 q => Wp.pure q))))
theorem wp_setD {n : Nat} {xs : List D} {k : Int} {j : Nat} {v : D} {st : Sto} {Q : Unit → Sto → Prop} (h : st[n]? = some (.lst xs)) (hj : ixN xs.length k = some j) (q : Q () (st.set n (.lst (xs.set j v)))) : Wp (setD (.obj n) (.int k) v) st Q := ⟨(), _, setD_lst h hj, q⟩
end Mir

namespace Mir
open PySem PySem.Spec PyProof.Rows L2

/-! ### == on plain data -/
mutual
/-- plain data, at most n levels deep -/
def plD : Nat → D → Bool
  | _, .non => true
  | _, .bl _ => true
  | _, .int _ => true
  | n + 1, .tup xs => plDs n xs
  | n + 1, .lst xs => plDs n xs
  | _, _ => false
def plDs : Nat → List D → Bool
  | _, [] => true
  | n, x :: xs => plD n x && plDs n xs
end
mutual
def dEq : D → D → Bool
  | .non, .non => true
  | .bl a, .bl b => a == b
  | .bl a, .int j => (if a then 1 else 0) == j
  | .int i, .bl b => i == (if b then 1 else 0)
  | .int i, .int j => i == j
  | .tup xs, .tup ys => dEqs xs ys
  | .lst xs, .lst ys => dEqs xs ys
  | _, _ => false
def dEqs : List D → List D → Bool
  | [], [] => true
  | x :: xs, y :: ys => dEq x y && dEqs xs ys
  | _, _ => false
end
mutual
theorem plD_py : ∀ (n : Nat) (d : D), plD n d = true → ∃ p, toPy d = some p ∧ p.canLay0 = true ∧ p.depth ≤ n + 1
  | _, .non, _ => ⟨_, rfl, rfl, by simp [PyData.depth]⟩
  | _, .bl _, _ => ⟨_, rfl, rfl, by simp [PyData.depth]⟩
  | _, .int _, _ => ⟨_, rfl, rfl, by simp [PyData.depth]⟩
  | 0, .tup _, h => by simp [plD] at h
  | 0, .lst _, h => by simp [plD] at h
  | n + 1, .tup xs, h => by
    obtain ⟨ps, e, l, d⟩ := plDs_py n xs (by simpa [plD] using h)
    exact ⟨.tuple ps, by simp only [toPy, e, Option.map_some], by simpa [PyData.canLay0] using l, by simp only [PyData.depth]; omega⟩
  | n + 1, .lst xs, h => by
    obtain ⟨ps, e, l, d⟩ := plDs_py n xs (by simpa [plD] using h)
    exact ⟨.list ps, by simp only [toPy, e, Option.map_some], by simpa [PyData.canLay0] using l, by simp only [PyData.depth]; omega⟩
  | _, .str _, h => by simp [plD] at h
  | _, .obj _, h => by simp [plD] at h
  | _, .scr _, h => by simp [plD] at h
theorem plDs_py : ∀ (n : Nat) (ds : List D), plDs n ds = true → ∃ ps, toPys ds = some ps ∧ PyData.canLayAll0 ps = true ∧ PyData.depthAll ps ≤ n + 1
  | n, [], _ => ⟨[], rfl, rfl, by simp [PyData.depthAll]⟩
  | n, x :: xs, h => by
    have h' : plD n x = true ∧ plDs n xs = true := by simpa [plDs] using h
    obtain ⟨p, e1, l1, d1⟩ := plD_py n x h'.1
    obtain ⟨ps, e2, l2, d2⟩ := plDs_py n xs h'.2
    exact ⟨p :: ps, by simp only [toPys, e1, e2], by simp only [PyData.canLayAll0, l1, l2, Bool.and_self], by simp only [PyData.depthAll]; omega⟩
end
mutual
theorem dEq_py : ∀ (a b : D) (p q : PyData) (n m : Nat), plD n a = true → plD m b = true → toPy a = some p → toPy b = some q → PyData.eqv p q = dEq a b
  | a, b, p, q, n, m, ha, hb, e1, e2 => by
    cases a with
    | str => simp [plD] at ha
    | obj => simp [plD] at ha
    | scr => simp [plD] at ha
    | tup xs =>
      cases n with
      | zero => simp [plD] at ha
      | succ n =>
        simp only [toPy] at e1
        cases ex : toPys xs with
        | none => rw [ex] at e1; cases e1
        | some ps =>
          rw [ex] at e1; cases e1
          cases b with
          | str => simp [plD] at hb
          | obj => simp [plD] at hb
          | scr => simp [plD] at hb
          | tup ys =>
            cases m with
            | zero => simp [plD] at hb
            | succ m =>
              simp only [toPy] at e2
              cases ey : toPys ys with
              | none => rw [ey] at e2; cases e2
              | some qs =>
                rw [ey] at e2; cases e2
                simp only [PyData.eqv, dEq]
                exact dEqs_py xs ys ps qs n m (by simpa [plD] using ha) (by simpa [plD] using hb) ex ey
          | lst ys =>
            simp only [toPy] at e2
            cases ey : toPys ys with
            | none => rw [ey] at e2; cases e2
            | some qs => rw [ey] at e2; cases e2; rfl
          | _ => cases e2; rfl
    | lst xs =>
      cases n with
      | zero => simp [plD] at ha
      | succ n =>
        simp only [toPy] at e1
        cases ex : toPys xs with
        | none => rw [ex] at e1; cases e1
        | some ps =>
          rw [ex] at e1; cases e1
          cases b with
          | str => simp [plD] at hb
          | obj => simp [plD] at hb
          | scr => simp [plD] at hb
          | lst ys =>
            cases m with
            | zero => simp [plD] at hb
            | succ m =>
              simp only [toPy] at e2
              cases ey : toPys ys with
              | none => rw [ey] at e2; cases e2
              | some qs =>
                rw [ey] at e2; cases e2
                simp only [PyData.eqv, dEq]
                exact dEqs_py xs ys ps qs n m (by simpa [plD] using ha) (by simpa [plD] using hb) ex ey
          | tup ys =>
            simp only [toPy] at e2
            cases ey : toPys ys with
            | none => rw [ey] at e2; cases e2
            | some qs => rw [ey] at e2; cases e2; rfl
          | _ => cases e2; rfl
    | _ =>
      cases e1
      cases b with
      | str => simp [plD] at hb
      | obj => simp [plD] at hb
      | scr => simp [plD] at hb
      | tup ys =>
        simp only [toPy] at e2
        cases ey : toPys ys with
        | none => rw [ey] at e2; cases e2
        | some qs => rw [ey] at e2; cases e2; rfl
      | lst ys =>
        simp only [toPy] at e2
        cases ey : toPys ys with
        | none => rw [ey] at e2; cases e2
        | some qs => rw [ey] at e2; cases e2; rfl
      | _ => cases e2; rfl
theorem dEqs_py : ∀ (a b : List D) (p q : List PyData) (n m : Nat), plDs n a = true → plDs m b = true → toPys a = some p → toPys b = some q → PyData.eqvAll p q = dEqs a b
  | [], [], _, _, _, _, _, _, e1, e2 => by cases e1; cases e2; rfl
  | [], y :: ys, _, q, _, m, _, hb, e1, e2 => by
    cases e1
    cases q with
    | nil =>
      simp only [toPys] at e2
      split at e2 <;> cases e2
    | cons => rfl
  | x :: xs, [], p, _, _, _, _, _, e1, e2 => by
    cases e2
    cases p with
    | nil =>
      simp only [toPys] at e1
      split at e1 <;> cases e1
    | cons => rfl
  | x :: xs, y :: ys, p, q, n, m, ha, hb, e1, e2 => by
    have ha' : plD n x = true ∧ plDs n xs = true := by simpa [plDs] using ha
    have hb' : plD m y = true ∧ plDs m ys = true := by simpa [plDs] using hb
    simp only [toPys] at e1 e2
    split at e1
    · rename_i p1 ps h1 h2
      cases e1
      split at e2
      · rename_i q1 qs h3 h4
        cases e2
        simp only [PyData.eqvAll, dEqs]
        rw [dEq_py x y p1 q1 n m ha'.1 hb'.1 h1 h3, dEqs_py xs ys ps qs n m ha'.2 hb'.2 h2 h4]
      · cases e2
    · cases e1
end
theorem wp_eq {neg : Bool} {a b a' b' : D} {n m : Nat} {st : Sto} {Q : D → Sto → Prop} (ea : resolve st a = a') (eb : resolve st b = b') (ha : plD n a' = true) (hb : plD m b' = true) (hn : n ≤ 60) (hm : m ≤ 60)
    (q : Q (.bl (if neg then !dEq a' b' else dEq a' b')) st) : Wp (eqD neg a b) st Q := by
  obtain ⟨p, e1, l1, d1⟩ := plD_py n a' ha
  obtain ⟨r, e2, l2, d2⟩ := plD_py m b' hb
  refine ⟨_, st, ?_, q⟩
  simp only [eqD, ea, eb, e1, e2, dEq_py a' b' p r n m ha hb e1 e2]
  exact okIf_true (Bool.and_eq_true_iff.mpr ⟨Bool.and_eq_true_iff.mpr ⟨l1, decide_eq_true (by omega)⟩, Bool.and_eq_true_iff.mpr ⟨l2, decide_eq_true (by omega)⟩⟩)
theorem plDs_all {n : Nat} : ∀ {ds : List D}, (∀ d ∈ ds, plD n d = true) → plDs n ds = true
  | [], _ => by simp [plDs]
  | d :: ds, h => by simp only [plDs, h d (by simp), plDs_all (ds := ds) (fun e he => h e (List.mem_cons_of_mem _ he)), Bool.and_self]
theorem plDs_ints (n : Nat) (ns : List Int) : plDs n (ns.map .int) = true := plDs_all fun d h => by
  obtain ⟨i, _, rfl⟩ := List.mem_map.mp h
  cases n <;> simp [plD]


end Mir

namespace Mir
open PySem PySem.Spec PyProof.Rows L2

/-! ### statements by their four ends -/
def Ws (b : SM) (env : Env) (st : Sto) (N : Env → Sto → Prop) (R : D → Sto → Prop) (B C : Env → Sto → Prop) : Prop := Wp (b env) st fun r st' => match r.1 with
  | .nx => N r.2 st'
  | .brk => B r.2 st'
  | .cnt => C r.2 st'
  | .ret d => R d st'
section
variable {a b : SM} {env : Env} {st : Sto} {N B C : Env → Sto → Prop} {R : D → Sto → Prop} {e o i : Env → M D} {t : Env → M Bool}
theorem ws_seq (h : Ws a env st (fun env1 st1 => Ws b env1 st1 N R B C) R B C) : Ws (sSeq a b) env st N R B C := by
  refine wp_seq (Wp.mono h ?_)
  rintro ⟨fl, env1⟩ st1 q
  cases fl <;> exact q
theorem ws_mono {N' B' C' : Env → Sto → Prop} {R' : D → Sto → Prop} (h : Ws a env st N R B C) (hN : ∀ e s, N e s → N' e s) (hR : ∀ e s, R e s → R' e s) (hB : ∀ e s, B e s → B' e s) (hC : ∀ e s, C e s → C' e s) : Ws a env st N' R' B' C' := by
  refine Wp.mono h ?_
  rintro ⟨fl, env1⟩ st1 q
  cases fl
  · exact hN _ _ q
  · exact hB _ _ q
  · exact hC _ _ q
  · exact hR _ _ q
theorem ws_nil (h : N env st) : Ws sNil env st N R B C := Wp.pure h
theorem ws_brk (h : B env st) : Ws sBrk env st N R B C := Wp.pure h
theorem ws_cnt (h : C env st) : Ws sCnt env st N R B C := Wp.pure h
theorem ws_retN (h : R .non st) : Ws sRetN env st N R B C := Wp.pure h
theorem ws_ret (h : Wp (e env) st R) : Ws (sRet e) env st N R B C := wp_ret h
theorem ws_set {i : Nat} (h : Wp (e env) st fun d st1 => N (env.set i (some d)) st1) : Ws (sSet (.name i) e) env st N R B C := wp_set h
theorem ws_setT {tg : Tg} (h : Wp (e env) st fun d st1 => ∃ env1, tgD tg d env = some env1 ∧ N env1 st1) : Ws (sSet tg e) env st N R B C := by
  obtain ⟨d, st1, e1, env1, e2, q⟩ := h
  refine ⟨(.nx, env1), st1, ?_, q⟩
  unfold sSet
  exact (bind_ok e1).trans (by simp only [e2])
theorem ws_if (h : Wp (t env) st fun c st1 => if c then Ws a env st1 N R B C else Ws b env st1 N R B C) : Ws (sIf t a b) env st N R B C := wp_if h
theorem ws_expr (h : Wp (e env) st fun _ st1 => N env st1) : Ws (sExpr e) env st N R B C := Wp.bind (h.mono fun _ _ q => Wp.pure q)
theorem ws_par {j k : Nat} (h : Wp (e env) st fun x st1 => Wp (o env) st1 fun y st2 => N ((env.set j (some x)).set k (some y)) st2) : Ws (sPar j k e o) env st N R B C := Wp.bind (h.mono fun _ _ q => Wp.bind (q.mono fun _ _ q => Wp.pure q))
theorem ws_setI (h : Wp (e env) st fun v st1 => Wp (o env) st1 fun ov st2 => Wp (i env) st2 fun iv st3 => Wp (setD ov iv v) st3 fun _ st4 => N env st4) : Ws (sSetI e o i) env st N R B C := wp_setI h
theorem ws_run {n : Nat} {ds : List D} {Q : D → Sto → Prop} (h : Ws b (ds.map some ++ List.replicate (n - ds.length) none) st (fun _ => Q .non) Q (fun _ _ => False) (fun _ _ => False)) : Wp (runB n b ds) st Q := by
  refine wp_run (Wp.mono h ?_)
  rintro ⟨fl, env1⟩ st1 q
  cases fl <;> exact q
/-- a source known: its items, its word of the store -/
theorem ws_for {mi : Env → M Src} {tg : Tg} (src : Src) (J : Nat → Env → Sto → Prop) (hs : Wp (mi env) st fun s st1 => s = src ∧ J 0 env st1) (hck : ∀ i env st, J i env st → src.2 st)
    (step : ∀ i d env st, src.1[i]? = some d → J i env st → ∃ env1, tgD tg d env = some env1 ∧ Ws b env1 st (J (i + 1)) R N (J (i + 1)))
    (fin : ∀ env st, J src.1.length env st → N env st) : Ws (sFor mi tg b) env st N R B C := by
  obtain ⟨s, st1, e1, rfl, h0⟩ := hs
  refine wp_for e1 J _ h0 hck (fun i d env st hd hJ => ?_) fin
  obtain ⟨env1, e2, h⟩ := step i d env st hd hJ
  refine ⟨env1, e2, Wp.mono h ?_⟩
  rintro ⟨fl, env2⟩ st2 q
  cases fl <;> exact q
theorem ws_while (J : Env → Sto → Prop) (μ : Env → Sto → Nat) (h0 : J env st)
    (step : ∀ env st, J env st → Wp (t env) st fun c st1 => if c then Ws b env st1 (fun e s => J e s ∧ μ e s < μ env st) R N (fun e s => J e s ∧ μ e s < μ env st) else N env st1) : Ws (sWhile t b) env st N R B C := by
  refine wp_while J μ _ h0 fun env st hJ => (step env st hJ).mono fun c st1 q => ?_
  cases c with
  | false => exact q
  | true =>
    refine Wp.mono (show Ws b env st1 (fun e s => J e s ∧ μ e s < μ env st) R N (fun e s => J e s ∧ μ e s < μ env st) from q) ?_
    rintro ⟨fl, env2⟩ st2 q
    cases fl <;> exact q
end
theorem wi_seq {a : Env → M D} {env : Env} {st : Sto} {Q : Src → Sto → Prop} (h : Wp (a env) st fun d st1 => ∃ xs, seqOf st1 d = some xs ∧ Q (xs, fun st' => seqOf st' d = some xs) st1) : Wp (itSeq a env) st Q := Wp.bind (h.mono fun d st1 ⟨xs, e, q⟩ => ⟨_, _, by simp only [seqSrc, e], q⟩)
theorem wi_enum {a : Env → M D} {env : Env} {st : Sto} {Q : Src → Sto → Prop} (h : Wp (a env) st fun d st1 => ∃ xs, seqOf st1 d = some xs ∧ Q (enumL xs, fun st' => seqOf st' d = some xs) st1) : Wp (itEnum a env) st Q := Wp.bind (h.mono fun d st1 ⟨xs, e, q⟩ => ⟨_, _, by simp only [enumSrc, e], q⟩)
theorem wi_rng1 {a : Env → M D} {env : Env} {st : Sto} {Q : Src → Sto → Prop} (h : Wp (a env) st fun d st1 => ∃ n : Int, d = .int n ∧ -(2 ^ 62) ≤ n ∧ n < 2 ^ 62 ∧ Q (rngL 0 n, fun _ => True) st1) : Wp (itR1 a env) st Q := Wp.bind (h.mono fun d st1 ⟨n, e, h1, h2, q⟩ => by
  subst e
  exact ⟨_, _, by simp only [rng1D, rngOk, h1, h2, and_self, decide_true, if_true], q⟩)
theorem wi_rng2 {a b : Env → M D} {env : Env} {st : Sto} {Q : Src → Sto → Prop} (h : Wp (a env) st fun d st1 => Wp (b env) st1 fun e st2 => ∃ m n : Int, d = .int m ∧ e = .int n ∧ (-(2 ^ 62) ≤ m ∧ m < 2 ^ 62) ∧ (-(2 ^ 62) ≤ n ∧ n < 2 ^ 62) ∧ Q (rngL m n, fun _ => True) st2) : Wp (itR2 a b env) st Q :=
  Wp.bind (h.mono fun d st1 q => Wp.bind (q.mono fun e st2 ⟨m, n, e1, e2, h1, h2, q2⟩ => ⟨_, _, by
    subst e1
    subst e2
    simp only [rng2D, rngOk, h1, h2, and_self, decide_true, if_true, Bool.and_self], q2⟩))
theorem rngL_get {lo hi : Int} {i : Nat} {d : D} (h : (rngL lo hi)[i]? = some d) : d = .int (lo + i) ∧ lo + i < hi := by
  unfold rngL at h
  rw [List.getElem?_map] at h
  cases e : (List.range (hi - lo).toNat)[i]? with
  | none => rw [e] at h; cases h
  | some j =>
    rw [e] at h
    cases h
    have l := (List.getElem?_eq_some_iff.mp e).1
    rw [List.length_range] at l
    rw [List.getElem?_range l] at e
    cases e
    exact ⟨rfl, by omega⟩
theorem rngL_len (lo hi : Int) : (rngL lo hi).length = (hi - lo).toNat := by unfold rngL; rw [List.length_map, List.length_range]
/-- a list's method -/
theorem wp_lm {f : D → List D → M D} {o : Env → M D} {mr : Env → M (List D)} {env : Env} {st : Sto} {Q : D → Sto → Prop} (h : Wp (o env) st fun d st1 => (lstOf st1 d).isSome ∧ Wp (mr env) st1 fun ds st2 => Wp (f d ds) st2 Q) : Wp (eLM f o mr env) st Q :=
  Wp.bind (h.mono fun d st1 ⟨h1, q⟩ => Wp.step (a := ()) (st' := st1) (by simp only [h1, if_true]) (Wp.bind q))
theorem wp_app {n : Nat} {y : D} {acc : List D} {st : Sto} {Q : D → Sto → Prop} (h : st[n]? = some (.lst acc)) (hz : acc.length + 1 ≤ 1000000) (q : Q .non (st.set n (.lst (acc ++ [y])))) : Wp (fn1 (appD (.obj n)) [y]) st Q := Wp.step (appO_ok h hz) (Wp.pure q)
theorem wp_pop0 {n : Nat} {y : D} {ys : List D} {st : Sto} {Q : D → Sto → Prop} (h : st[n]? = some (.lst (y :: ys))) (q : Q y (st.set n (.lst ys))) : Wp (fn1 (popD (.obj n)) [.int 0]) st Q := ⟨_, _, by
  show popD (.obj n) (.int 0) st = _
  simp only [popD, h]
  have : ixN (y :: ys).length 0 = some 0 := by simp [ixN]
  simp only [this]
  rfl, q⟩
theorem wp_tst_b {ta : Env → M D} {env : Env} {st : Sto} {R : Bool → Sto → Prop} (h : Wp (ta env) st fun d st' => ∃ k, d = .bl k ∧ R k st') : Wp (tst ta env) st R := wp_tst h
theorem fmod_rng {i j : Int} (h : 0 < j) : 0 ≤ i.fmod j ∧ i.fmod j < j := ⟨Int.fmod_nonneg_of_pos _ h, Int.fmod_lt_of_pos _ h⟩
theorem log2_le {i : Int} {k : Nat} (h : i.natAbs < 2 ^ (k + 1)) : i.natAbs.log2 ≤ k := by
  rcases Nat.eq_zero_or_pos i.natAbs with z | z
  · rw [z]; exact Nat.zero_le _
  · have := (Nat.log2_lt (Nat.ne_of_gt z)).mpr h
    omega

theorem wp_eqF {i j : Int} {st : Sto} {Q : D → Sto → Prop} (q : Q (.bl (decide (i = j))) st) : Wp (eqD false (.int i) (.int j)) st Q := wp_eqI q
theorem wp_neF {i j : Int} {st : Sto} {Q : D → Sto → Prop} (q : Q (.bl (decide (i ≠ j))) st) : Wp (eqD true (.int i) (.int j)) st Q := wp_eqI (by
  have : (!(i == j)) = decide (i ≠ j) := by
    by_cases h : i = j
    · simp [h]
    · simp [h]
  rw [if_pos rfl, this]
  exact q)
theorem wp_eqP {a b a' b' : D} {n m : Nat} {st : Sto} {Q : D → Sto → Prop} (ea : resolve st a = a') (eb : resolve st b = b') (ha : plD n a' = true) (hb : plD m b' = true) (hn : n ≤ 60) (hm : m ≤ 60)
    (q : Q (.bl (dEq a' b')) st) : Wp (eqD false a b) st Q := wp_eq ea eb ha hb hn hm q
theorem wp_neP {a b a' b' : D} {n m : Nat} {st : Sto} {Q : D → Sto → Prop} (ea : resolve st a = a') (eb : resolve st b = b') (ha : plD n a' = true) (hb : plD m b' = true) (hn : n ≤ 60) (hm : m ≤ 60)
    (q : Q (.bl (!dEq a' b')) st) : Wp (eqD true a b) st Q := wp_eq ea eb ha hb hn hm q
local macro_rules | `(tactic| walk_at "wp") => `(tactic| repeat (first
  | with_reducible refine ws_seq ?_
  | with_reducible refine ws_set ?_
  | with_reducible refine ws_ret ?_
  | with_reducible refine ws_if ?_
  | with_reducible refine ws_setI ?_
  | with_reducible refine ws_expr ?_
  | with_reducible refine ws_nil ?_
  | with_reducible refine wp_var (by with_unfolding_all rfl) ?_
  | with_reducible refine wp_c ?_
  | with_reducible refine wp_op ?_
  | with_reducible refine wp_un ?_
  | with_reducible refine wp_and ?_
  | with_reducible refine wp_or ?_
  | with_reducible refine wp_not ?_
  | with_reducible refine wp_tst ?_
  | with_reducible refine wp_tand ?_
  | with_reducible refine wp_tor ?_
  | with_reducible refine wp_tnot ?_
  | with_reducible refine wp_chain ?_
  | with_reducible refine wp_ife ?_
  | with_reducible refine wa_nil ?_
  | with_reducible refine wa_cons ?_
  | with_reducible refine wp_lst ?_
  | with_reducible refine wp_tup ?_
  | with_reducible refine wp_new ?_
  | with_reducible refine wp_fn ?_
  | with_reducible refine wp_call ?_
  | with_reducible refine wp_lm ?_
  | with_reducible refine wp_addI ?_
  | with_reducible refine wp_subI ?_
  | with_reducible refine wp_negI ?_
  | with_reducible refine wp_gtI ?_
  | with_reducible refine wp_ltI ?_
  | with_reducible refine wp_geI ?_
  | with_reducible refine wp_leI ?_
  | with_reducible refine wp_eqF ?_
  | with_reducible refine wp_neF ?_
  | with_reducible refine ex_bl ?_
  | (with_reducible refine if_tt ?_)
  | (with_reducible refine if_ff ?_)))
/-! ### the draw -/
noncomputable def b_draw : SM := (sSeq (sSetI (eOp addD (eOp ixD (eVar 0) (eC (.int 2))) (eC (.int 1))) (eVar 0) (eC (.int 2))) (sSeq (sIf (tAndM (tst (eOp (eqD false) (eOp ixD (eVar 0) (eC (.int 1))) (eC (.int 0)))) (tst (eOp (eqD true) (eOp ixD (eVar 0) (eC (.int 0))) (eLst aNil)))) (sSeq (sSetI (eLM (fun d ds => fn1 (popD d) ds) (eOp ixD (eVar 0) (eC (.int 0))) (aCons (eC (.int 0)) aNil)) (eVar 0) (eC (.int 1))) (sIf (tst (eOp ltD (eOp ixD (eVar 0) (eC (.int 1))) (eOp powD (eC (.int 10)) (eC (.int 18))))) (sSeq (sSetI (eOp modD (eOp addD (eOp mulD (eOp ixD (eVar 0) (eC (.int 3))) (eC (.int 39373))) (eOp ixD (eVar 0) (eC (.int 1)))) (eC (.int 2147483647))) (eVar 0) (eC (.int 3))) (sSetI (eC (.int 0)) (eVar 0) (eC (.int 1)))) sNil)) sNil) (sSeq (sIf (tst (eOp gtD (eOp ixD (eVar 0) (eC (.int 1))) (eC (.int 0)))) (sSeq (sSet (.name 2) (eOp modD (eOp ixD (eVar 0) (eC (.int 1))) (eVar 1))) (sSeq (sSetI (eOp fdivD (eOp ixD (eVar 0) (eC (.int 1))) (eVar 1)) (eVar 0) (eC (.int 1))) (sRet (eVar 2)))) sNil) (sSeq (sSet (.name 2) (eOp modD (eOp powD (eOp addD (eOp addD (eOp ixD (eVar 0) (eC (.int 3))) (eOp mulD (eC (.int 7919)) (eOp ixD (eVar 0) (eC (.int 2))))) (eC (.int 104729))) (eC (.int 5))) (eC (.int 2147483647)))) (sRet (eOp modD (eOp modD (eOp mulD (eOp addD (eVar 2) (eOp ixD (eVar 0) (eC (.int 2)))) (eC (.int 48271))) (eC (.int 2147483629))) (eVar 1)))))))
noncomputable def m_draw : List D → M D := runB 3 b_draw

/-- the stream's parts -/
def Stm (a b : Nat) (ns : List Int) (x c r : Int) (st : Sto) : Prop := st[a]? = some (.lst [.obj b, .int x, .int c, .int r]) ∧ st[b]? = some (.lst (ns.map .int)) ∧ a ≠ b
section
variable {a b k : Nat} {ns : List Int} {x c r v : Int} {st : Sto}
theorem Stm.ix (h : Stm a b ns x c r st) (j : Nat) (d : D) (hd : [D.obj b, .int x, .int c, .int r][j]? = some d) (i : Int) (hi : atI [D.obj b, .int x, .int c, .int r] i = some d) {Q : D → Sto → Prop} (q : Q d st) : Wp (ixD (.obj a) (.int i)) st Q :=
  wp_ixL (xs := [D.obj b, .int x, .int c, .int r]) (by simp only [seqOf, lstOf, h.1]) hi q
theorem Stm.w1 (h : Stm a b ns x c r st) : Stm a b ns v c r (st.set a (.lst [.obj b, .int v, .int c, .int r])) :=
  ⟨by rw [List.getElem?_set_self (List.getElem?_eq_some_iff.mp h.1).1], by rw [List.getElem?_set_ne h.2.2]; exact h.2.1, h.2.2⟩
theorem Stm.w2 (h : Stm a b ns x c r st) : Stm a b ns x v r (st.set a (.lst [.obj b, .int x, .int v, .int r])) :=
  ⟨by rw [List.getElem?_set_self (List.getElem?_eq_some_iff.mp h.1).1], by rw [List.getElem?_set_ne h.2.2]; exact h.2.1, h.2.2⟩
theorem Stm.w3 (h : Stm a b ns x c r st) : Stm a b ns x c v (st.set a (.lst [.obj b, .int x, .int c, .int v])) :=
  ⟨by rw [List.getElem?_set_self (List.getElem?_eq_some_iff.mp h.1).1], by rw [List.getElem?_set_ne h.2.2]; exact h.2.1, h.2.2⟩
theorem Stm.wb {ms : List Int} (h : Stm a b ns x c r st) : Stm a b ms x c r (st.set b (.lst (ms.map .int))) :=
  ⟨by rw [List.getElem?_set_ne (Ne.symm h.2.2)]; exact h.1, by rw [List.getElem?_set_self (List.getElem?_eq_some_iff.mp h.2.1).1], h.2.2⟩
end
theorem Kp.put {S : List Nat} {st st' : Sto} (h : Kp S st st') {n : Nat} (hn : n ∈ S) (o : O) : Kp S st (st'.set n o) := h.set (.inr hn) o

/-- the rest of the draw: no cell is left over -/
theorem draw_end {a b : Nat} {st : Sto} {n x c r : Int} {ns : List Int} {u : Option D} (h : Stm a b ns x c r st) (hx : 0 ≤ x) (hc : 0 ≤ c) (hc2 : c < 2 ^ 41) (hr : 0 ≤ r) (hr2 : r < 2147483647) (hn : 0 < n) (hl : n.natAbs.log2 < 9000)
    {N B C : Env → Sto → Prop} {R : D → Sto → Prop} (q : ∀ (i : Int) (x' : Int) (st' : Sto), 0 ≤ i → i < n → 0 ≤ x' → Stm a b ns x' c r st' → Kp [a, b] st st' → R (.int i) st') :
    Ws (sSeq (sIf (tst (eOp gtD (eOp ixD (eVar 0) (eC (.int 1))) (eC (.int 0)))) (sSeq (sSet (.name 2) (eOp modD (eOp ixD (eVar 0) (eC (.int 1))) (eVar 1))) (sSeq (sSetI (eOp fdivD (eOp ixD (eVar 0) (eC (.int 1))) (eVar 1)) (eVar 0) (eC (.int 1))) (sRet (eVar 2)))) sNil) (sSeq (sSet (.name 2) (eOp modD (eOp powD (eOp addD (eOp addD (eOp ixD (eVar 0) (eC (.int 3))) (eOp mulD (eC (.int 7919)) (eOp ixD (eVar 0) (eC (.int 2))))) (eC (.int 104729))) (eC (.int 5))) (eC (.int 2147483647)))) (sRet (eOp modD (eOp modD (eOp mulD (eOp addD (eVar 2) (eOp ixD (eVar 0) (eC (.int 2)))) (eC (.int 48271))) (eC (.int 2147483629))) (eVar 1))))) [some (.obj a), some (.int n), u] st N R B C := by
  walk_at "wp"
  refine h.ix 1 (.int x) rfl 1 rfl ?_
  walk_at "wp"
  refine if_bl (fun hx0 => ?_) fun hx0 => ?_
  · walk_at "wp"
    refine h.ix 1 (.int x) rfl 1 rfl ?_
    walk_at "wp"
    refine wp_modI (by omega) ?_
    walk_at "wp"
    refine h.ix 1 (.int x) rfl 1 rfl ?_
    walk_at "wp"
    refine wp_divI (by omega) hl ?_
    walk_at "wp"
    refine wp_setD h.1 (j := 1) rfl ?_
    walk_at "wp"
    exact q _ (x.fdiv n) _ (fmod_rng hn).1 (fmod_rng hn).2 (Int.fdiv_nonneg hx (by omega)) h.w1 ((Kp.refl _ _).put (by simp) _)
  · walk_at "wp"
    refine h.ix 3 (.int r) rfl 3 rfl ?_
    walk_at "wp"
    refine h.ix 2 (.int c) rfl 2 rfl (wp_mulI ?_ ?_)
    · exact Nat.lt_of_le_of_lt (Nat.add_le_add (Nat.le_refl _) (log2_le (k := 41) (by omega))) (by decide)
    walk_at "wp"
    refine wp_powI ?_ ?_
    · refine ⟨by decide, by decide, ?_⟩
      omega
    walk_at "wp"
    refine wp_modI (by decide) ?_
    walk_at "wp"
    refine h.ix 2 (.int c) rfl 2 rfl ?_
    walk_at "wp"
    refine wp_mulI ?_ (wp_c (wp_modI (by decide) (wp_var rfl (wp_modI (by omega) ?_))))
    · have := fmod_rng (i := (r + 7919 * c + 104729) ^ (5 : Int).toNat) (j := 2147483647) (by decide)
      refine Nat.lt_of_le_of_lt (Nat.add_le_add (log2_le (k := 42) (by omega)) (Nat.le_refl _)) (by decide)
    · exact q _ x _ (fmod_rng hn).1 (fmod_rng hn).2 hx h (Kp.refl _ _)
theorem draw_ok {a b k : Nat} {st : Sto} {n : Int} (h : Strm a b k st) (hk : k < 2 ^ 40) (hn : 0 < n) (hl : n.natAbs.log2 < 9000) :
    Wp (m_draw [.obj a, .int n]) st fun d st' => ∃ i : Int, d = .int i ∧ 0 ≤ i ∧ i < n ∧ Strm a b (k + 1) st' ∧ Kp [a, b] st st' := by
  obtain ⟨ns, x, c, r, h1, h2, hx, hc, hck, hr, hr2, hab⟩ := h
  have h : Stm a b ns x c r st := ⟨h1, h2, hab⟩
  refine ws_run ?_
  show Ws b_draw [some (.obj a), some (.int n), none] st _ _ _ _
  unfold b_draw
  refine ws_seq ?_
  walk_at "wp"
  refine h.ix 2 (.int c) rfl 2 rfl ?_
  walk_at "wp"
  refine wp_setD h.1 (j := 2) rfl ?_
  have g := h.w2 (v := c + 1)
  have k1 : Kp [a, b] st (st.set a (.lst [.obj b, .int x, .int (c + 1), .int r])) := (Kp.refl _ _).put (by simp) _
  show Ws _ _ (st.set a (.lst [.obj b, .int x, .int (c + 1), .int r])) _ _ _ _
  generalize st.set a (.lst [.obj b, .int x, .int (c + 1), .int r]) = st1 at g k1 ⊢
  have fin : ∀ (i : Int) (ms : List Int) (x' r' : Int) (st2 st' : Sto), 0 ≤ i → i < n → 0 ≤ x' → Stm a b ms x' (c + 1) r' st' → 0 ≤ r' → r' < 2147483647 → Kp [a, b] st st2 → Kp [a, b] st2 st' →
      ∃ i' : Int, D.int i = .int i' ∧ 0 ≤ i' ∧ i' < n ∧ Strm a b (k + 1) st' ∧ Kp [a, b] st st' := fun i ms x' r' st2 st' hi hi2 hx' g' hr' hr2' k2 k' =>
    ⟨i, rfl, hi, hi2, ⟨ms, x', c + 1, r', g'.1, g'.2.1, hx', by omega, by omega, hr', hr2', hab⟩, k2.trans k'⟩
  refine ws_seq ?_
  refine ws_if ?_
  walk_at "wp"
  refine g.ix 1 (.int x) rfl 1 rfl ?_
  walk_at "wp"
  by_cases x0 : x = 0
  rotate_left
  · rw [decide_eq_false x0]
    refine if_ff (if_ff ?_)
    refine ws_nil ?_
    exact draw_end g hx (by omega) (by omega) hr hr2 hn hl fun i x' st' hi hi2 hx' g' k' => fin i ns x' r st1 st' hi hi2 hx' g' hr hr2 k1 k'
  · subst x0
    refine if_tt ?_
    walk_at "wp"
    refine g.ix 0 (.obj b) rfl 0 rfl ?_
    walk_at "wp"
    refine ⟨by decide, wp_neP (n := 1) (m := 1) (by simp only [resolve, g.2.1]; rfl) rfl (by simpa [plD] using plDs_ints 0 ns) (by rfl) (by decide) (by decide) ?_⟩
    walk_at "wp"
    cases ns with
    | nil =>
      refine if_ff ?_
      refine ws_nil ?_
      exact draw_end g hx (by omega) (by omega) hr hr2 hn hl fun i x' st' hi hi2 hx' g' k' => fin i [] x' r st1 st' hi hi2 hx' g' hr hr2 k1 k'
    | cons m ns =>
      refine if_tt ?_
      walk_at "wp"
      refine g.ix 0 (.obj b) rfl 0 rfl ?_
      refine ⟨by simp only [lstOf, g.2.1]; rfl, ?_⟩
      walk_at "wp"
      refine wp_pop0 g.2.1 ?_
      have g2 := g.wb (ms := ns)
      have k2 : Kp [a, b] st (st1.set b (.lst (ns.map .int))) := k1.put (by simp) _
      show Wp _ (st1.set b (.lst (ns.map .int))) _
      generalize st1.set b (.lst (ns.map .int)) = st2 at g2 k2 ⊢
      walk_at "wp"
      refine wp_setD g2.1 (j := 1) rfl ?_
      have g3 := g2.w1 (v := m)
      have k3 : Kp [a, b] st (st2.set a (.lst [.obj b, .int m, .int (c + 1), .int r])) := k2.put (by simp) _
      show Ws _ _ (st2.set a (.lst [.obj b, .int m, .int (c + 1), .int r])) _ _ _ _
      generalize st2.set a (.lst [.obj b, .int m, .int (c + 1), .int r]) = st3 at g3 k3 ⊢
      walk_at "wp"
      refine g3.ix 1 (.int m) rfl 1 rfl ?_
      walk_at "wp"
      refine wp_powI (by decide) ?_
      walk_at "wp"
      refine if_bl (fun hm => ?_) fun hm => ?_
      · walk_at "wp"
        refine g3.ix 3 (.int r) rfl 3 rfl ?_
        walk_at "wp"
        refine wp_mulI ?_ ?_
        · exact Nat.lt_of_le_of_lt (Nat.add_le_add (log2_le (k := 31) (by omega)) (Nat.le_refl _)) (by decide)
        walk_at "wp"
        refine g3.ix 1 (.int m) rfl 1 rfl ?_
        walk_at "wp"
        refine wp_modI (by decide) ?_
        walk_at "wp"
        refine wp_setD g3.1 (j := 3) rfl ?_
        have g4 := g3.w3 (v := (r * 39373 + m).fmod 2147483647)
        have k4 : Kp [a, b] st (st3.set a (.lst [.obj b, .int m, .int (c + 1), .int ((r * 39373 + m).fmod 2147483647)])) := k3.put (by simp) _
        show Ws _ _ (st3.set a (.lst [.obj b, .int m, .int (c + 1), .int ((r * 39373 + m).fmod 2147483647)])) _ _ _ _
        generalize st3.set a (.lst [.obj b, .int m, .int (c + 1), .int ((r * 39373 + m).fmod 2147483647)]) = st4 at g4 k4 ⊢
        walk_at "wp"
        refine wp_setD g4.1 (j := 1) rfl ?_
        have h0 := fmod_rng (i := r * 39373 + m) (j := 2147483647) (by decide)
        exact draw_end (g4.w1 (v := 0)) (by decide) (by omega) (by omega) h0.1 h0.2 hn hl fun i x' st' hi hi2 hx' g' k' => fin i ns x' _ _ st' hi hi2 hx' g' h0.1 h0.2 (k4.put (by simp) _) k'
      · have : (10 : Int) ^ (18 : Int).toNat = 1000000000000000000 := by decide
        refine ws_nil ?_
        exact draw_end g3 (by omega) (by omega) (by omega) hr hr2 hn hl fun i x' st' hi hi2 hx' g' k' => fin i ns x' r st3 st' hi hi2 hx' g' hr hr2 k3 k'
end Mir

namespace Mir
open PySem PySem.Spec PyProof.Rows L2

theorem Kp.drop {S : List Nat} {a b c : Sto} (x : Kp [] a b) (y : Kp S b c) : Kp S a c := (x.more (by simp)).trans y
theorem Strm.kp {a b k : Nat} {st st' : Sto} (h : Strm a b k st) (x : Kp [] st st') : Strm a b k st' := by
  obtain ⟨ns, u, c, r, h1, h2, h3⟩ := h
  exact ⟨ns, u, c, r, x.at' _ _ (by simp) h1, x.at' _ _ (by simp) h2, h3⟩
theorem Strm.le {a b k l : Nat} {st : Sto} (h : Strm a b k st) (x : k ≤ l) : Strm a b l st := by
  obtain ⟨ns, u, c, r, h1, h2, h3, h4, h5, h6⟩ := h
  exact ⟨ns, u, c, r, h1, h2, h3, h4, by omega, h6⟩
section
variable {env : Env} {st : Sto} {Q : D → Sto → Prop} {d : D} {xs : List D}
theorem wp_tuple (hs : seqOf st d = some xs) (q : Q (.tup xs) st) : Wp (tupleD d) st Q := ⟨_, _, by simp only [tupleD, hs], q⟩
theorem wp_list (hs : srcOf st d = some xs) (q : Q (.lst xs) st) : Wp (listD d) st Q := ⟨_, _, by simp only [listD, hs], q⟩
theorem wp_listN (hs : srcOf st d = some xs) (q : Q (.obj st.length) (st ++ [.lst xs])) : Wp (listN d) st Q := ⟨_, _, by simp only [listN, hs]; rfl, q⟩
theorem asInts_ints (l : List Int) : asInts (l.map .int) = some l := by
  induction l with
  | nil => rfl
  | cons i l ih => simp only [List.map_cons, asInts, ih, Option.map_some]
theorem wp_all {bs : List Bool} (hs : lstOf st d = some xs) (hb : asBls xs = some bs) (q : Q (.bl (bs.all id)) st) : Wp (allD d) st Q := ⟨_, _, by simp only [allD, blsF, hs, hb], q⟩
theorem wp_any {bs : List Bool} (hs : lstOf st d = some xs) (hb : asBls xs = some bs) (q : Q (.bl (bs.any id)) st) : Wp (anyD d) st Q := ⟨_, _, by simp only [anyD, blsF, hs, hb], q⟩
theorem wp_sum {bs : List Int} (hs : lstOf st d = some xs) (hb : asInts xs = some bs) (q : Q (.int bs.sum) st) : Wp (sumD d) st Q := ⟨_, _, by simp only [sumD, intsF, hs, hb], q⟩
theorem wp_sorted {bs : List Int} (hs : lstOf st d = some xs) (hb : asInts xs = some bs) (q : Q (.lst ((sortI bs).map .int)) st) : Wp (sortedD d) st Q := ⟨_, _, by simp only [sortedD, intsF, hs, hb], q⟩
theorem wp_lenSet {bs : List Int} (hs : lstOf st d = some xs) (hb : asInts xs = some bs) (hz : bs.length ≤ 4000) (q : Q (.int (difI bs).length) st) : Wp (lenSetD d) st Q := ⟨_, _, by simp only [lenSetD, hs, hb]; exact okIf_true (decide_eq_true hz), q⟩
theorem wp_isiB {T t : String} (ht : tyD st d = some t) (hk : kitOk t T = true) (b : Bool) (hb : subT t T = b) (q : Q (.bl b) st) : Wp (isiD [T] d) st Q := by subst hb; exact wp_isi ht hk q
theorem wp_slice {a : Env → M D} {l h : Env → M (Option Int)} : Wp (a env) st (fun x st1 => Wp (l env) st1 fun lo st2 => Wp (h env) st2 fun hi st3 => Wp (sliceD x lo hi) st3 Q) → Wp (eSlice a l h env) st Q :=
  fun q => Wp.bind (q.mono fun _ _ q => Wp.bind (q.mono fun _ _ q => Wp.bind q))
theorem wo_none {R : Option Int → Sto → Prop} (q : R none st) : Wp (oNone env) st R := ⟨_, _, rfl, q⟩
theorem wo_some {R : Option Int → Sto → Prop} {a : Env → M D} (q : Wp (a env) st fun d st1 => ∃ i, d = .int i ∧ R (some i) st1) : Wp (oSome a env) st R := Wp.bind (q.mono fun d st1 ⟨i, e, q⟩ => by subst e; exact ⟨_, _, rfl, q⟩)
theorem wp_allF {α : Type} (f : α → Bool) {ys : List α} (hs : lstOf st d = some (ys.map fun x => .bl (f x))) (q : Q (.bl (ys.all f)) st) : Wp (allD d) st Q := by
  have e : asBls (ys.map fun x => .bl (f x)) = some (ys.map f) := by
    clear hs q
    induction ys with
    | nil => rfl
    | cons y ys ih => simp only [List.map_cons, asBls, ih, Option.map_some]
  refine wp_all hs e ?_
  rw [List.all_map]
  exact q
theorem wp_anyF {α : Type} (f : α → Bool) {ys : List α} (hs : lstOf st d = some (ys.map fun x => .bl (f x))) (q : Q (.bl (ys.any f)) st) : Wp (anyD d) st Q := by
  have e : asBls (ys.map fun x => .bl (f x)) = some (ys.map f) := by
    clear hs q
    induction ys with
    | nil => rfl
    | cons y ys ih => simp only [List.map_cons, asBls, ih, Option.map_some]
  refine wp_any hs e ?_
  rw [List.any_map]
  exact q
/-- with a test -/
theorem wl_filter {mi : Env → M Src} {t : Tg} {mt : Env → M Bool} {me : Env → M D} {vs : List Nat} (g : D → Bool) (f : D → D) (h : Wp (mi env) st fun src st1 => src.1.length ≤ 1000000 ∧ (∀ st', Kp [] st1 st' → src.2 st') ∧
    (∀ d ∈ src.1, ∀ st2, Kp [] st1 st2 → ∃ env1, tgD t d (wipeE env vs) = some env1 ∧ Wp (mt env1) st2 fun c st3 => c = g d ∧ Kp [] st2 st3 ∧ (c = true → Wp (me env1) st3 fun y st4 => y = f d ∧ Kp [] st3 st4)) ∧ ∀ st', Kp [] st1 st' → st'[st1.length]? = some (.lst ((src.1.filter g).map f)) → Q (.obj st1.length) st') :
    Wp (eLC mi t mt me vs env) st Q := by
  obtain ⟨src, st1, e, hz, hck, step, fin⟩ := h
  obtain ⟨a, st', e2, q⟩ := wp_lc (t := t) (mt := mt) (me := me) (vs := vs) e (fun i acc st' => Kp [] st1 st' ∧ st'[st1.length]? = some (.lst acc) ∧ acc = ((src.1.take i).filter g).map f) ⟨Kp.app _ _ _, by rw [List.getElem?_append_right (Nat.le_refl _), Nat.sub_self]; rfl, rfl⟩ (fun i acc st' h => hck st' h.1) (by
    rintro i d acc st2 hd ⟨k1, e1, e2⟩
    obtain ⟨env1, t1, c, st3, w1, rfl, k2, w2⟩ := step d (List.mem_of_getElem? hd) st2 k1
    have hi := (List.getElem?_eq_some_iff.mp hd).1
    refine ⟨env1, t1, g d, st3, w1, ?_⟩
    cases hg : g d with
    | false =>
      rw [if_neg (by simp)]
      refine ⟨k1.trans k2, k2.at' _ _ (by simp) e1, ?_⟩
      rw [e2, List.take_add_one, hd, List.filter_append]
      simp [hg]
    | true =>
      rw [if_pos rfl]
      obtain ⟨y, st4, w3, rfl, k3⟩ := w2 hg
      have e4 := (k2.trans k3).at' _ _ (by simp) e1
      refine ⟨f d, st4, w3, e4, ?_, ?_, ?_, ?_⟩
      · rw [e2, List.length_map]
        have := List.length_filter_le g (src.1.take i)
        rw [List.length_take] at this
        omega
      · exact ((k1.trans k2).trans k3).set (.inl (Nat.le_refl _)) _
      · rw [List.getElem?_set_self (List.getElem?_eq_some_iff.mp e4).1]
      · rw [e2, List.take_add_one, hd, List.filter_append, List.map_append]
        simp [hg])
  obtain ⟨rfl, acc, k, e3, e4⟩ := q
  rw [List.take_length] at e4
  exact ⟨_, st', e2, fin st' k (by rw [e3, e4])⟩
/-- a comprehension without a test, its elements functions of the items -/
theorem wl_map {mi : Env → M Src} {t : Tg} {me : Env → M D} {vs : List Nat} (f : D → D) (h : Wp (mi env) st fun src st1 => src.1.length ≤ 1000000 ∧ (∀ st', Kp [] st1 st' → src.2 st') ∧
    (∀ d ∈ src.1, ∀ st2, Kp [] st1 st2 → ∃ env1, tgD t d (wipeE env vs) = some env1 ∧ Wp (me env1) st2 fun y st3 => y = f d ∧ Kp [] st2 st3) ∧ ∀ st', Kp [] st1 st' → st'[st1.length]? = some (.lst (src.1.map f)) → Q (.obj st1.length) st') :
    Wp (eLC mi t (fun _ => pure true) me vs env) st Q := by
  obtain ⟨src, st1, e, hz, hck, step, fin⟩ := h
  refine wl_filter (fun _ => true) f ⟨src, st1, e, hz, hck, fun d hd st2 k => ?_, fun st' k g => fin st' k ?_⟩
  · obtain ⟨env1, e1, w⟩ := step d hd st2 k
    exact ⟨env1, e1, Wp.pure ⟨rfl, Kp.refl _ _, fun _ => w⟩⟩
  · rw [List.filter_eq_self.mpr (fun _ _ => rfl)] at g
    exact g
end
/-! ### rows and matrices -/
def rowD (xs : List Int) : D := .tup (xs.map .int)
def matD (rs : List (List Int)) : D := .tup (rs.map rowD)
theorem atI_at {α : Type} {xs : List α} {j : Nat} {x : α} (h : xs[j]? = some x) : atI xs (j : Int) = some x := by
  have l := (List.getElem?_eq_some_iff.mp h).1
  unfold atI ixN
  rw [if_pos (by omega), if_pos (by omega), Int.toNat_natCast]
  exact h
theorem atI_get {α : Type} {xs : List α} {i : Int} (h0 : 0 ≤ i) (h1 : i < xs.length) : ∃ x, xs[i.toNat]? = some x ∧ atI xs i = some x := by
  have l : i.toNat < xs.length := by omega
  refine ⟨xs[i.toNat], List.getElem?_eq_getElem l, ?_⟩
  have := atI_at (List.getElem?_eq_getElem l)
  rwa [Int.toNat_of_nonneg h0] at this
/-- the j-th of a row -/
theorem wp_ixR {xs : List Int} {st : Sto} {Q : D → Sto → Prop} {j : Nat} (h : j < xs.length) (q : Q (.int (xs.getD j 0)) st) : Wp (ixD (rowD xs) (.int j)) st Q := by
  refine wp_ixL (xs := xs.map .int) rfl (atI_at (x := .int (xs.getD j 0)) ?_) q
  rw [List.getElem?_map, List.getD_eq_getElem?_getD, List.getElem?_eq_getElem h]
  rfl
theorem wp_ixM {rs : List (List Int)} {st : Sto} {Q : D → Sto → Prop} {j : Nat} (h : j < rs.length) (q : Q (rowD (rs.getD j [])) st) : Wp (ixD (matD rs) (.int j)) st Q := by
  refine wp_ixL (xs := rs.map rowD) rfl (atI_at (x := rowD (rs.getD j [])) ?_) q
  rw [List.getElem?_map, List.getD_eq_getElem?_getD, List.getElem?_eq_getElem h]
  rfl
mutual
/-- nothing of the store inside -/
def puD : D → Bool
  | .tup xs => puDs xs
  | .lst xs => puDs xs
  | .obj _ => false
  | .scr _ => false
  | _ => true
def puDs : List D → Bool
  | [] => true
  | x :: xs => puD x && puDs xs
end
theorem puDs_iff : ∀ {xs : List D}, puDs xs = true ↔ ∀ x ∈ xs, puD x = true
  | [] => by simp [puDs]
  | x :: xs => by simp only [puDs, Bool.and_eq_true, puDs_iff (xs := xs), List.forall_mem_cons]
def isI : D → Bool
  | .int _ => true
  | _ => false
def isT : D → Bool
  | .tup _ => true
  | _ => false
def isB : D → Bool
  | .bl _ => true
  | _ => false
def tyP : D → String
  | .non => "NoneType" | .bl _ => "bool" | .int _ => "int" | .str _ => "str" | .tup _ => "tuple" | .lst _ => "list" | .obj _ => "" | .scr _ => ""
theorem ty_pu {d : D} (h : puD d = true) (st : Sto) : tyD st d = some (tyP d) := by cases d <;> first | rfl | simp [puD] at h
theorem wp_isT {d : D} {st : Sto} {Q : D → Sto → Prop} (h : puD d = true) (q : Q (.bl (isT d)) st) : Wp (isiD ["tuple"] d) st Q :=
  wp_isiB (ty_pu h st) (by cases d <;> first | (simp [puD] at h; done) | (simp only [tyP]; decide)) (isT d) (by cases d <;> first | (simp [puD] at h; done) | (simp only [tyP, isT, isI, isB, Bool.or_true, Bool.or_false]; decide)) q
theorem wp_isInt {d : D} {st : Sto} {Q : D → Sto → Prop} (h : puD d = true) (q : Q (.bl (isI d || isB d)) st) : Wp (isiD ["int"] d) st Q :=
  wp_isiB (ty_pu h st) (by cases d <;> first | (simp [puD] at h; done) | (simp only [tyP]; decide)) (isI d || isB d) (by cases d <;> first | (simp [puD] at h; done) | (simp only [tyP, isT, isI, isB, Bool.or_true, Bool.or_false]; decide)) q
theorem wp_isBool {d : D} {st : Sto} {Q : D → Sto → Prop} (h : puD d = true) (q : Q (.bl (isB d)) st) : Wp (isiD ["bool"] d) st Q :=
  wp_isiB (ty_pu h st) (by cases d <;> first | (simp [puD] at h; done) | (simp only [tyP]; decide)) (isB d) (by cases d <;> first | (simp [puD] at h; done) | (simp only [tyP, isT, isI, isB, Bool.or_true, Bool.or_false]; decide)) q
/-! sorted, set -/
theorem insI_head {n : Int} {l : List Int} (h : ∀ m ∈ l, n ≤ m) : insI n l = n :: l := by
  cases l with
  | nil => rfl
  | cons m r => simp only [insI, h m (by simp), if_true]
theorem sortI_self {l : List Int} (h : l.Pairwise (· ≤ ·)) : sortI l = l := (sortI_unique (List.Perm.refl l) h).symm
theorem sortI_eq {l : List Int} : sortI l = l ↔ l.Pairwise (· ≤ ·) := ⟨fun h => h ▸ sortI_pw l, sortI_self⟩
theorem difI_nodup {l : List Int} (h : l.Nodup) : difI l = l := by
  have := RZ.firstMet_nodup h l.length (Nat.le_refl _)
  rw [List.take_length] at this
  exact this
theorem firstMet_full (val : Nat → Int) : ∀ i, (firstMet val i).length = i → ((List.range i).map val).Nodup
  | 0, _ => by simp
  | i + 1, h => by
    have hl := firstMet_length_le val i
    rw [firstMet_succ] at h
    unfold step_dedup at h
    split at h
    · omega
    · rename_i hn
      rw [List.length_append, List.length_singleton] at h
      have ih := firstMet_full val i (by omega)
      rw [firstMet_any] at hn
      rw [List.range_succ, List.map_append, List.nodup_append]
      refine ⟨ih, by simp, ?_⟩
      intro x hx y hy e
      have : y = val i := by simpa using hy
      subst this
      subst e
      exact hn (List.any_eq_true.mpr ⟨_, hx, by simp⟩)
theorem difI_len {l : List Int} : (difI l).length = l.length ↔ l.Nodup := by
  refine ⟨fun h => ?_, fun h => by rw [difI_nodup h]⟩
  have := firstMet_full _ l.length h
  have e : (List.range l.length).map (fun i => l.getD i 0) = l := by
    refine List.ext_getElem? fun i => ?_
    rw [List.getElem?_map]
    by_cases hi : i < l.length
    · rw [List.getElem?_range hi, List.getElem?_eq_getElem hi]
      simp [List.getD_eq_getElem?_getD, List.getElem?_eq_getElem hi]
    · rw [List.getElem?_eq_none (by simpa using hi), List.getElem?_eq_none (by simpa using hi)]
      rfl
  rw [e] at this
  exact this
theorem dEqs_ints : ∀ {xs ys : List Int}, dEqs (xs.map .int) (ys.map .int) = decide (xs = ys)
  | [], [] => rfl
  | [], _ :: _ => rfl
  | _ :: _, [] => rfl
  | x :: xs, y :: ys => by
    simp only [List.map_cons, dEqs, dEq, dEqs_ints (xs := xs) (ys := ys), List.cons.injEq]
    by_cases h : x = y <;> by_cases h2 : xs = ys <;> simp [h, h2]
end Mir

namespace Mir
open PySem PySem.Spec PyProof.Rows L2

/-! ### bases -/
def pv (r : List Int) : Nat := r.findIdx fun x => x != 0
def ent (rs : List (List Int)) (i c : Nat) : Int := (rs.getD i []).getD c 0
structure IsB (n : Nat) (rs : List (List Int)) : Prop where
  len : ∀ r ∈ rs, r.length = n
  piv : ∀ r ∈ rs, pv r < n
  asc : (rs.map pv).Pairwise (· < ·)
  pos : ∀ i < rs.length, 0 ≤ ent rs i (pv (rs.getD i []))
  red : ∀ i < rs.length, ∀ j < i, 0 ≤ ent rs j (pv (rs.getD i [])) ∧ ent rs j (pv (rs.getD i [])) < ent rs i (pv (rs.getD i []))
noncomputable def bas (n : Nat) (d : D) : Bool := @decide (∃ rs, d = matD rs ∧ IsB n rs) (Classical.propDecidable _)
theorem bas_true {n : Nat} {rs : List (List Int)} (h : IsB n rs) : bas n (matD rs) = true := by
  unfold bas
  exact @decide_eq_true _ (Classical.propDecidable _) ⟨rs, rfl, h⟩
theorem bas_false {n : Nat} {d : D} (h : ∀ rs, d = matD rs → IsB n rs → False) : bas n d = false := by
  unfold bas
  exact @decide_eq_false _ (Classical.propDecidable _) fun ⟨rs, e, b⟩ => h rs e b
theorem bas_notT {n : Nat} {d : D} (h : isT d = false) : bas n d = false := bas_false fun rs e b => by
  subst e
  cases h
theorem ints_inj : ∀ {xs ys : List Int}, xs.map D.int = ys.map D.int → xs = ys
  | [], [], _ => rfl
  | [], _ :: _, h => by simp at h
  | _ :: _, [], h => by simp at h
  | x :: xs, y :: ys, h => by
    simp only [List.map_cons, List.cons.injEq, D.int.injEq] at h
    rw [h.1, ints_inj h.2]
theorem rowD_inj {xs ys : List Int} (h : rowD xs = rowD ys) : xs = ys := by
  simp only [rowD, D.tup.injEq] at h
  exact ints_inj h
theorem rows_inj : ∀ {xs ys : List (List Int)}, xs.map rowD = ys.map rowD → xs = ys
  | [], [], _ => rfl
  | [], _ :: _, h => by simp at h
  | _ :: _, [], h => by simp at h
  | x :: xs, y :: ys, h => by
    simp only [List.map_cons, List.cons.injEq] at h
    rw [rowD_inj h.1, rows_inj h.2]
theorem matD_inj {xs ys : List (List Int)} (h : matD xs = matD ys) : xs = ys := by
  simp only [matD, D.tup.injEq] at h
  exact rows_inj h
theorem bas_mat {n : Nat} {rs : List (List Int)} (h : ¬ IsB n rs) : bas n (matD rs) = false := bas_false fun rs' e b => by
  rw [matD_inj e] at h
  exact h b
/-- a form of the size -/
def isF (n : Int) : D → Bool
  | .tup xs => decide ((xs.length : Int) = n) && xs.all isI
  | _ => false
theorem all_isI : ∀ {ds : List D}, ds.all isI = true → ∃ xs : List Int, ds = xs.map .int
  | [], _ => ⟨[], rfl⟩
  | d :: ds, h => by
    rw [List.all_cons, Bool.and_eq_true] at h
    obtain ⟨xs, rfl⟩ := all_isI h.2
    cases d with
    | int i => exact ⟨i :: xs, rfl⟩
    | _ => simp [isI] at h
theorem isI_all (xs : List Int) : (xs.map D.int).all isI = true := by
  rw [List.all_eq_true]
  intro d hd
  obtain ⟨i, _, rfl⟩ := List.mem_map.mp hd
  rfl
theorem isF_row {n : Int} {d : D} (h : isF n d = true) : ∃ xs : List Int, d = rowD xs ∧ (xs.length : Int) = n := by
  cases d with
  | tup ds =>
    simp only [isF, Bool.and_eq_true, decide_eq_true_eq] at h
    obtain ⟨xs, rfl⟩ := all_isI h.2
    exact ⟨xs, rfl, by simpa using h.1⟩
  | _ => simp [isF] at h
theorem row_isF {n : Int} {xs : List Int} (h : (xs.length : Int) = n) : isF n (rowD xs) = true := by
  simp only [isF, rowD, List.length_map, h, decide_true, isI_all, Bool.and_self]
theorem rows_of {n : Int} : ∀ {ds : List D}, (∀ d ∈ ds, isF n d = true) → ∃ rs : List (List Int), ds = rs.map rowD ∧ ∀ r ∈ rs, (r.length : Int) = n
  | [], _ => ⟨[], rfl, by simp⟩
  | d :: ds, h => by
    obtain ⟨xs, rfl, h1⟩ := isF_row (h d (by simp))
    obtain ⟨rs, rfl, h2⟩ := rows_of (n := n) (ds := ds) fun e he => h e (by simp [he])
    exact ⟨xs :: rs, rfl, by
      intro r hr
      rcases List.mem_cons.mp hr with rfl | hr
      · exact h1
      · exact h2 r hr⟩
/-- the pivot as a thing -/
def pvD (xs : List Int) : D := if pv xs < xs.length then .int (pv xs) else .non
def pvF : D → D
  | .tup ds => match asInts ds with
    | some xs => pvD xs
    | none => .non
  | _ => .non
theorem pvF_row (xs : List Int) : pvF (rowD xs) = pvD xs := by simp only [pvF, rowD, asInts_ints]
theorem pv_zero {xs : List Int} {j : Nat} (h : j < pv xs) : xs.getD j 0 = 0 := by
  have hl : j < xs.length := Nat.lt_of_lt_of_le h List.findIdx_le_length
  have := List.not_of_lt_findIdx (p := fun x => x != 0) (xs := xs) (i := j) h
  rw [List.getD_eq_getElem?_getD, List.getElem?_eq_getElem hl]
  simpa using this
theorem pv_ne {xs : List Int} (h : pv xs < xs.length) : xs.getD (pv xs) 0 ≠ 0 := by
  have := List.findIdx_getElem (p := fun x => x != 0) (xs := xs) (w := h)
  rw [List.getD_eq_getElem?_getD, List.getElem?_eq_getElem h]
  intro e
  have h2 : (xs[pv xs] != 0) = true := this
  rw [show xs[pv xs] = 0 from e] at h2
  cases h2
theorem pv_eq {xs : List Int} {c : Nat} (hc : c < xs.length) (h0 : xs.getD c 0 ≠ 0) (hz : ∀ j < c, xs.getD j 0 = 0) : pv xs = c := by
  by_cases h : pv xs < c
  · exact absurd (hz _ h) (pv_ne (by omega))
  · by_cases h2 : c < pv xs
    · exact absurd (pv_zero h2) h0
    · omega
theorem pv_none {xs : List Int} (hz : ∀ j < xs.length, xs.getD j 0 = 0) : ¬ pv xs < xs.length := fun h => pv_ne h (hz _ h)
theorem puD_row (xs : List Int) : puD (rowD xs) = true := by
  unfold rowD
  simp only [puD, puDs_iff]
  intro x hx
  obtain ⟨i, _, rfl⟩ := List.mem_map.mp hx
  rfl
theorem puD_mat (rs : List (List Int)) : puD (matD rs) = true := by
  unfold matD
  simp only [puD, puDs_iff]
  intro x hx
  obtain ⟨i, _, rfl⟩ := List.mem_map.mp hx
  exact puD_row i

theorem wp_inF {a b : D} {xs : List D} {st : Sto} {Q : D → Sto → Prop} (hs : seqOf st b = some xs) (hf : (flatD a && xs.all flatD) = true) (q : Q (.bl (inV (tv a) (xs.map tv))) st) : Wp (inD false a b) st Q := ⟨_, _, by simp only [inD, hs]; exact okIf_true hf, q⟩
theorem pvD_flat (rs : List (List Int)) : (flatD .non && (rs.map pvD).all flatD) = true := by
  refine Bool.and_eq_true_iff.mpr ⟨rfl, List.all_eq_true.mpr fun x hx => ?_⟩
  obtain ⟨r, _, rfl⟩ := List.mem_map.mp hx
  unfold pvD
  split <;> rfl
/-- 0 <= row[c] < m -/
def redF (c : Nat) (m : Int) : D → Bool
  | .tup ds => match asInts ds with
    | some xs => decide (0 ≤ xs.getD c 0 ∧ xs.getD c 0 < m)
    | none => false
  | _ => false
theorem redF_row (c : Nat) (m : Int) (xs : List Int) : redF c m (rowD xs) = decide (0 ≤ xs.getD c 0 ∧ xs.getD c 0 < m) := by simp only [redF, rowD, asInts_ints]
theorem cutL_pre {α : Type} (xs : List α) (i : Nat) : cutL xs none (some (i : Int)) = xs.take i := by
  unfold cutL
  rw [HT.sIx_none, HT.sIx_nat, List.drop_zero, Nat.sub_zero]
  by_cases h : i ≤ xs.length
  · rw [Nat.min_eq_left h]
  · rw [Nat.min_eq_right (by omega), List.take_length, List.take_of_length_le (by omega)]
theorem cutL_post {α : Type} (xs : List α) (i : Nat) : cutL xs (some (i : Int)) none = xs.drop i := by
  unfold cutL
  rw [HT.sIx_none, HT.sIx_nat]
  by_cases h : i ≤ xs.length
  · rw [Nat.min_eq_left h, List.take_of_length_le (by rw [List.length_drop]; omega)]
  · rw [Nat.min_eq_right (by omega), Nat.sub_self, List.take_zero, List.drop_of_length_le (by omega)]
theorem wp_slicePre {xs : List D} {i : Nat} {st : Sto} {Q : D → Sto → Prop} (q : Q (.tup (xs.take i)) st) : Wp (sliceD (.tup xs) none (some (i : Int))) st Q := ⟨_, _, rfl, by rw [cutL_pre]; exact q⟩
theorem wp_slicePost {xs : List D} {i : Nat} {st : Sto} {Q : D → Sto → Prop} (q : Q (.tup (xs.drop i)) st) : Wp (sliceD (.tup xs) (some (i : Int)) none) st Q := ⟨_, _, rfl, by rw [cutL_post]; exact q⟩

theorem resolve_lst {st : Sto} {d : D} {xs : List D} (h : lstOf st d = some xs) : resolve st d = .lst xs := by
  cases d with
  | lst ys => simp only [lstOf, Option.some.injEq] at h; subst h; rfl
  | obj n => simp only [resolve, obj_lst h]
  | _ => simp only [lstOf] at h; cases h
section
variable {a b : D} {xs ys : List Int} {st : Sto} {Q : D → Sto → Prop}
theorem wp_eqInts (ha : lstOf st a = some (xs.map .int)) (hb : lstOf st b = some (ys.map .int)) (q : Q (.bl (decide (xs = ys))) st) : Wp (eqD false a b) st Q :=
  wp_eqP (n := 1) (m := 1) (resolve_lst ha) (resolve_lst hb) (by simpa only [plD] using plDs_ints 0 xs) (by simpa only [plD] using plDs_ints 0 ys) (by decide) (by decide) (by simpa only [dEq, dEqs_ints] using q)
theorem wp_neInts (ha : lstOf st a = some (xs.map .int)) (hb : lstOf st b = some (ys.map .int)) (q : Q (.bl (!decide (xs = ys))) st) : Wp (eqD true a b) st Q :=
  wp_neP (n := 1) (m := 1) (resolve_lst ha) (resolve_lst hb) (by simpa only [plD] using plDs_ints 0 xs) (by simpa only [plD] using plDs_ints 0 ys) (by decide) (by decide) (by simpa only [dEq, dEqs_ints] using q)
end

theorem getD_app_l {α : Type} {xs ys : List α} {d : α} {i : Nat} (h : i < xs.length) : (xs ++ ys).getD i d = xs.getD i d := by
  rw [List.getD_eq_getElem?_getD, List.getD_eq_getElem?_getD, List.getElem?_append_left h]
theorem getD_app_e {α : Type} {xs : List α} {y d : α} : (xs ++ [y]).getD xs.length d = y := by
  rw [List.getD_eq_getElem?_getD, List.getElem?_append_right (Nat.le_refl _), Nat.sub_self]
  rfl
theorem getD_mem {α : Type} {xs : List α} {d : α} {i : Nat} (h : i < xs.length) : xs.getD i d ∈ xs := by
  rw [List.getD_eq_getElem?_getD, List.getElem?_eq_getElem h]
  exact List.getElem_mem h
theorem mem_getD {α : Type} {xs : List α} {x d : α} (h : x ∈ xs) : ∃ i, i < xs.length ∧ xs.getD i d = x := by
  obtain ⟨i, hi, e⟩ := List.getElem_of_mem h
  exact ⟨i, hi, by rw [List.getD_eq_getElem?_getD, List.getElem?_eq_getElem hi]; exact e⟩
theorem IsB.nil (n : Nat) : IsB n [] := ⟨by simp, by simp, by simp, fun i h => absurd h (Nat.not_lt_zero _), fun i h => absurd h (Nat.not_lt_zero _)⟩
theorem IsB_snoc {n : Nat} {rs : List (List Int)} {r : List Int} : IsB n (rs ++ [r]) ↔ IsB n rs ∧ r.length = n ∧ pv r < n ∧ (∀ q ∈ rs, pv q < pv r) ∧ 0 ≤ r.getD (pv r) 0 ∧ ∀ q ∈ rs, 0 ≤ q.getD (pv r) 0 ∧ q.getD (pv r) 0 < r.getD (pv r) 0 := by
  constructor
  · intro b
    have hasc := b.asc
    rw [List.map_append, List.pairwise_append] at hasc
    have hlast := getD_app_e (xs := rs) (y := r) (d := [])
    refine ⟨⟨fun q h => b.len q (by simp [h]), fun q h => b.piv q (by simp [h]), hasc.1, fun i hi => ?_, fun i hi j hj => ?_⟩, b.len r (by simp), b.piv r (by simp), fun q h => hasc.2.2 _ (List.mem_map.mpr ⟨q, h, rfl⟩) _ (by simp), ?_, fun q h => ?_⟩
    · have := b.pos i (by rw [List.length_append]; omega)
      simpa only [ent, getD_app_l hi] using this
    · have := b.red i (by rw [List.length_append]; omega) j hj
      simpa only [ent, getD_app_l hi, getD_app_l (Nat.lt_trans hj hi)] using this
    · have := b.pos rs.length (by simp)
      simpa only [ent, hlast] using this
    · obtain ⟨j, hj, rfl⟩ := mem_getD (d := []) h
      have := b.red rs.length (by simp) j hj
      simpa only [ent, hlast, getD_app_l hj] using this
  · rintro ⟨b, hl, hp, ha, h0, hr⟩
    have hlast := getD_app_e (xs := rs) (y := r) (d := [])
    refine ⟨fun q h => ?_, fun q h => ?_, ?_, fun i hi => ?_, fun i hi j hj => ?_⟩
    · rcases List.mem_append.mp h with h | h
      · exact b.len q h
      · rw [List.mem_singleton.mp h]; exact hl
    · rcases List.mem_append.mp h with h | h
      · exact b.piv q h
      · rw [List.mem_singleton.mp h]; exact hp
    · rw [List.map_append, List.pairwise_append]
      refine ⟨b.asc, by simp, fun x hx y hy => ?_⟩
      obtain ⟨q, hq, rfl⟩ := List.mem_map.mp hx
      have : y = pv r := by simpa using hy
      rw [this]
      exact ha q hq
    · rw [List.length_append, List.length_singleton] at hi
      by_cases h : i < rs.length
      · simpa only [ent, getD_app_l h] using b.pos i h
      · have : i = rs.length := by omega
        subst this
        simpa only [ent, hlast] using h0
    · rw [List.length_append, List.length_singleton] at hi
      by_cases h : i < rs.length
      · simpa only [ent, getD_app_l h, getD_app_l (Nat.lt_trans hj h)] using b.red i h j hj
      · have : i = rs.length := by omega
        subst this
        simpa only [ent, hlast, getD_app_l hj] using hr _ (getD_mem hj)
theorem IsB.pre {n : Nat} : ∀ (b : List (List Int)) {a : List (List Int)}, IsB n (a ++ b) → IsB n a
  | [], a, h => by rwa [List.append_nil] at h
  | x :: b, a, h => by
    rw [show a ++ x :: b = (a ++ [x]) ++ b by simp] at h
    exact (IsB_snoc.mp (IsB.pre b h)).1
theorem IsB.take {n : Nat} {rs : List (List Int)} (b : IsB n rs) (i : Nat) : IsB n (rs.take i) := IsB.pre (rs.drop i) (by rw [List.take_append_drop]; exact b)
theorem dec_ne (y : Int) : decide (y ≠ 0) = (y != 0) := by
  by_cases h : y = 0
  · subst h; rfl
  · rw [decide_eq_true h]
    exact (bne_iff_ne.mpr h).symm
/-- the places of what is not zero -/
def plc (xs : List Int) : List Nat := (List.range xs.length).filter fun i => xs.getD i 0 != 0
def neF : D → Bool
  | .tup [_, .int y] => y != 0
  | _ => false
def fstF : D → D
  | .tup (x :: _) => x
  | _ => .non
theorem enumL_ints (xs : List Int) : enumL (xs.map .int) = (List.range xs.length).map fun i => .tup [.int (i : Nat), .int (xs.getD i 0)] := by
  unfold enumL
  rw [List.length_map]
  refine List.map_congr_left fun i hi => ?_
  have h := List.mem_range.mp hi
  rw [List.getD_eq_getElem?_getD, List.getElem?_map, List.getElem?_eq_getElem h, List.getD_eq_getElem?_getD, List.getElem?_eq_getElem h]
  rfl
theorem plc_D (xs : List Int) : ((enumL (xs.map .int)).filter neF).map fstF = ((plc xs).map fun i : Nat => (i : Int)).map .int := by
  rw [enumL_ints, List.filter_map, List.map_map, List.map_map]
  rfl
theorem plc_none {xs : List Int} (h : ¬ pv xs < xs.length) : plc xs = [] := by
  unfold plc
  rw [List.filter_eq_nil_iff]
  intro i hi
  have h1 := List.mem_range.mp hi
  have := pv_zero (xs := xs) (j := i) (by omega)
  rw [this]
  decide
theorem range_filter_head (p : Nat → Bool) (c : Nat) (hc : p c = true) (hz : ∀ j < c, p j = false) : ∀ n, c < n → ((List.range n).filter p)[0]? = some c
  | n + 1, h => by
    rw [List.range_succ, List.filter_append]
    by_cases hn : c < n
    · rw [List.getElem?_append_left]
      · exact range_filter_head p c hc hz n hn
      · have := range_filter_head p c hc hz n hn
        exact (List.getElem?_eq_some_iff.mp this).1
    · have e : c = n := by omega
      subst e
      have : (List.range c).filter p = [] := by
        rw [List.filter_eq_nil_iff]
        intro j hj
        rw [hz j (List.mem_range.mp hj)]
        simp
      rw [this]
      simp [hc]
theorem plc_some {xs : List Int} (h : pv xs < xs.length) : (plc xs)[0]? = some (pv xs) := by
  refine range_filter_head _ _ ?_ ?_ _ h
  · simpa using pv_ne h
  · intro j hj
    simpa using pv_zero hj
end Mir

namespace Mir
open PySem PySem.Spec PyProof.Rows L2

theorem Strm.lt {a b k : Nat} {st : Sto} (h : Strm a b k st) : a < st.length ∧ b < st.length := by
  obtain ⟨ns, u, c, r, h1, h2, h3⟩ := h
  exact ⟨(List.getElem?_eq_some_iff.mp h1).1, (List.getElem?_eq_some_iff.mp h2).1⟩
theorem Strm.nin {a b k : Nat} {st : Sto} (h : Strm a b k st) {p : Nat} (hp : st.length ≤ p) : p ∉ [a, b] := by
  have := h.lt
  simp only [List.mem_cons, List.not_mem_nil, or_false, not_or]
  omega
theorem Strm.set {a b k : Nat} {st : Sto} (h : Strm a b k st) {p : Nat} (hp : p ∉ [a, b]) (o : O) : Strm a b k (st.set p o) := by
  obtain ⟨ns, u, c, r, h1, h2, h3⟩ := h
  simp only [List.mem_cons, List.not_mem_nil, or_false, not_or] at hp
  exact ⟨ns, u, c, r, by rw [List.getElem?_set_ne hp.1]; exact h1, by rw [List.getElem?_set_ne hp.2]; exact h2, h3⟩
theorem Strm.app {a b k : Nat} {st : Sto} (h : Strm a b k st) (o : O) : Strm a b k (st ++ [o]) := h.kp (Kp.app [] st o)
theorem app_get {st : Sto} {o : O} : (st ++ [o])[st.length]? = some o := by rw [List.getElem?_append_right (Nat.le_refl _), Nat.sub_self]; rfl
theorem set_get {st : Sto} {p : Nat} {o u : O} (h : st[p]? = some u) : (st.set p o)[p]? = some o := by rw [List.getElem?_set_self (List.getElem?_eq_some_iff.mp h).1]
theorem set_get_ne {st : Sto} {p q : Nat} {o u : O} (hne : p ≠ q) (h : st[q]? = some u) : (st.set p o)[q]? = some u := by rw [List.getElem?_set_ne hne]; exact h
theorem wi_zip {a b : Env → M D} {env : Env} {st : Sto} {Q : Src → Sto → Prop} (h : Wp (a env) st fun d st1 => Wp (b env) st1 fun e st2 => ∃ xs ys, seqOf st2 d = some xs ∧ seqOf st2 e = some ys ∧ Q (zipL xs ys, fun st' => seqOf st' d = some xs ∧ seqOf st' e = some ys) st2) : Wp (itZip a b env) st Q :=
  Wp.bind (h.mono fun d st1 q => Wp.bind (q.mono fun e st2 ⟨xs, ys, e1, e2, q⟩ => ⟨_, _, by simp only [zipSrc, e1, e2], q⟩))
theorem wp_rep {xs : List D} {j : Int} {st : Sto} {Q : D → Sto → Prop} (h1 : 0 ≤ j) (h2 : xs.length * j.toNat ≤ 1000000) (h3 : j < 2 ^ 62) (q : Q (.lst (List.replicate j.toNat xs).flatten) st) : Wp (repD (.lst xs) (.int j)) st Q := by
  refine ⟨_, _, okIf_true ?_, q⟩
  rw [Bool.and_eq_true]
  exact ⟨decide_eq_true ⟨by omega, by omega⟩, szOk_of h2⟩
theorem rep1 (x : D) (j : Nat) : (List.replicate j [x]).flatten = List.replicate j x := by
  induction j with
  | zero => rfl
  | succ j ih => rw [List.replicate_succ, List.flatten_cons, ih, List.replicate_succ]; rfl
theorem wp_addN {a b : D} {xs ys : List D} {st : Sto} {Q : D → Sto → Prop} (ha : lstOf st a = some xs) (hb : lstOf st b = some ys) (hz : xs.length + ys.length ≤ 1000000) (q : Q (.obj st.length) (st ++ [.lst (xs ++ ys)])) : Wp (addN a b) st Q :=
  ⟨_, _, by simp only [addN, ha, hb, szOk_of hz, if_true]; rfl, q⟩
theorem wp_addL {a b : D} {xs ys : List D} {st : Sto} {Q : D → Sto → Prop} (ha : lstOf st a = some xs) (hb : lstOf st b = some ys) (hz : xs.length + ys.length ≤ 1000000) (q : Q (.lst (xs ++ ys)) st) : Wp (addD a b) st Q := by
  refine ⟨_, _, ?_, q⟩
  cases a <;> first
    | (simp only [lstOf] at ha; cases ha; done)
    | (simp only [addD, ha, hb]; exact okIf_true (szOk_of hz))
theorem wp_addT {xs ys : List D} {st : Sto} {Q : D → Sto → Prop} (hz : xs.length + ys.length ≤ 1000000) (q : Q (.tup (xs ++ ys)) st) : Wp (addD (.tup xs) (.tup ys)) st Q := ⟨_, _, okIf_true (szOk_of hz), q⟩

/-! the reduction of rows -/
theorem fdiv_abs {x p : Int} (hp : 0 < p) : (x.fdiv p).natAbs ≤ x.natAbs := by
  have h1 := Int.mul_fdiv_add_fmod x p
  have h2 := fmod_rng (i := x) hp
  generalize x.fdiv p = q at *
  generalize x.fmod p = r at *
  have h3 : q * p = x - r := by rw [Int.mul_comm]; omega
  rcases Int.lt_or_le q 0 with hq | hq
  · have : (q + 1) * p ≤ (q + 1) * 1 := Int.mul_le_mul_of_nonpos_left (by omega) (by omega)
    rw [Int.add_mul] at this
    omega
  · have : q * 1 ≤ q * p := Int.mul_le_mul_of_nonneg_left (by omega) hq
    omega
theorem zip_len {f : Int} {xs ys : List Int} {n : Nat} (hx : xs.length = n) (hy : ys.length = n) : (List.zipWith (fun a b => f * a + b) xs ys).length = n := by
  rw [List.length_zipWith, hx, hy, Nat.min_self]
theorem zip_get {f : Int} {xs ys : List Int} {n : Nat} (hx : xs.length = n) (hy : ys.length = n) (c : Nat) : (List.zipWith (fun a b => f * a + b) xs ys).getD c 0 = f * xs.getD c 0 + ys.getD c 0 := by
  by_cases h : c < n
  · rw [List.getD_eq_getElem?_getD, List.getD_eq_getElem?_getD, List.getD_eq_getElem?_getD, List.getElem?_zipWith, List.getElem?_eq_getElem (by omega), List.getElem?_eq_getElem (by omega)]
    rfl
  · rw [List.getD_eq_getElem?_getD, List.getD_eq_getElem?_getD, List.getD_eq_getElem?_getD, List.getElem?_eq_none (by rw [zip_len hx hy]; omega), List.getElem?_eq_none (by omega), List.getElem?_eq_none (by omega)]
    simp
theorem getD_set {α : Type} {xs : List α} {i j : Nat} {x d : α} (h : i < xs.length) : (xs.set i x).getD j d = if i = j then x else xs.getD j d := by
  by_cases e : i = j
  · subst e
    rw [if_pos rfl, List.getD_eq_getElem?_getD, List.getElem?_set_self h]
    rfl
  · rw [if_neg e, List.getD_eq_getElem?_getD, List.getElem?_set_ne e, List.getD_eq_getElem?_getD]
theorem getD_ge {α : Type} {xs : List α} {i : Nat} {d : α} (h : xs.length ≤ i) : xs.getD i d = d := by
  rw [List.getD_eq_getElem?_getD, List.getElem?_eq_none h]
  rfl
/-- rows on ascending columns; the first i columns reduced, of column i the rows below j; sizes -/
structure Red (n : Nat) (cols : List Nat) (e i j : Nat) (rs : List (List Int)) : Prop where
  len : rs.length = cols.length
  row : ∀ h < rs.length, (rs.getD h []).length = n
  zer : ∀ h < rs.length, ∀ c < cols.getD h 0, ent rs h c = 0
  pos : ∀ h < rs.length, 0 < ent rs h (cols.getD h 0)
  red : ∀ g < i, ∀ h < g, 0 ≤ ent rs h (cols.getD g 0) ∧ ent rs h (cols.getD g 0) < ent rs g (cols.getD g 0)
  rdj : ∀ h < j, 0 ≤ ent rs h (cols.getD i 0) ∧ ent rs h (cols.getD i 0) < ent rs i (cols.getD i 0)
  bnd0 : ∀ h, i ≤ h → ∀ c, (ent rs h c).natAbs < 2 ^ e
  bnd1 : ∀ h, h < j → ∀ c, (ent rs h c).natAbs < 2 ^ ((e + 1) * (i + 2))
  bnd2 : ∀ h, h < i → j ≤ h → ∀ c, (ent rs h c).natAbs < 2 ^ ((e + 1) * (i + 1))
theorem cols_lt {cols : List Nat} (asc : cols.Pairwise (· < ·)) {i j : Nat} (hij : i < j) (hj : j < cols.length) : cols.getD i 0 < cols.getD j 0 := by
  rw [List.getD_eq_getElem?_getD, List.getD_eq_getElem?_getD, List.getElem?_eq_getElem (by omega), List.getElem?_eq_getElem hj]
  exact List.pairwise_iff_getElem.mp asc i j (by omega) hj hij
theorem ent_set {rs : List (List Int)} {j : Nat} {new : List Int} (hj : j < rs.length) (h c : Nat) : ent (rs.set j new) h c = if j = h then new.getD c 0 else ent rs h c := by
  unfold ent
  rw [getD_set hj]
  split <;> rfl
theorem Red.step {n e i j : Nat} {cols : List Nat} {rs : List (List Int)} (R : Red n cols e i j rs) (asc : cols.Pairwise (· < ·)) (hj : j < i) (hi : i < rs.length) (q : Int) (hq : q = (ent rs j (cols.getD i 0)).fdiv (ent rs i (cols.getD i 0))) :
    Red n cols e i (j + 1) (rs.set j (List.zipWith (fun a b => (0 - q) * a + b) (rs.getD i []) (rs.getD j []))) := by
  have hj' : j < rs.length := by omega
  have hg : ∀ c, (List.zipWith (fun a b => (0 - q) * a + b) (rs.getD i []) (rs.getD j [])).getD c 0 = (0 - q) * ent rs i c + ent rs j c := fun c => zip_get (R.row i hi) (R.row j hj') c
  have hE : ∀ h c, ent (rs.set j (List.zipWith (fun a b => (0 - q) * a + b) (rs.getD i []) (rs.getD j []))) h c = if j = h then (0 - q) * ent rs i c + ent rs j c else ent rs h c := fun h c => by rw [ent_set hj', hg]
  have hcol : ∀ g, g < i → cols.getD g 0 < cols.getD i 0 := fun g hg => cols_lt asc hg (by rw [← R.len]; exact hi)
  refine ⟨by rw [List.length_set]; exact R.len, fun h hh => ?_, fun h hh c hc => ?_, fun h hh => ?_, fun g hg' h hh => ?_, fun h hh => ?_, fun h hh c => ?_, fun h hh c => ?_, fun h hh hh2 c => ?_⟩
  · rw [List.length_set] at hh
    rw [getD_set hj']
    split
    · exact zip_len (R.row i hi) (R.row j hj')
    · exact R.row h hh
  · rw [List.length_set] at hh
    rw [hE]
    split
    · rename_i e
      subst e
      rw [R.zer j hh c hc, R.zer i hi c (by have := hcol j hj; omega)]
      simp
    · exact R.zer h hh c hc
  · rw [List.length_set] at hh
    rw [hE]
    split
    · rename_i e
      subst e
      rw [R.zer i hi _ (hcol j hj)]
      have := R.pos j hh
      simpa using this
    · exact R.pos h hh
  · have z : ent rs i (cols.getD g 0) = 0 := R.zer i hi _ (hcol g hg')
    have r := R.red g hg' h hh
    rw [hE, hE, z]
    simp only [Int.mul_zero, Int.zero_add]
    by_cases e1 : j = h
    · subst e1
      rw [if_pos rfl]
      by_cases e2 : j = g
      · omega
      · rw [if_neg e2]; exact r
    · rw [if_neg e1]
      by_cases e2 : j = g
      · subst e2; rw [if_pos rfl]; exact r
      · rw [if_neg e2]; exact r
  · rw [hE, hE, if_neg (show ¬ j = i by omega)]
    by_cases e1 : j = h
    · subst e1
      rw [if_pos rfl]
      have hp := R.pos i hi
      have h1 := Int.mul_fdiv_add_fmod (ent rs j (cols.getD i 0)) (ent rs i (cols.getD i 0))
      have h2 := fmod_rng (i := ent rs j (cols.getD i 0)) hp
      rw [← hq] at h1
      have h3 : (0 - q) * ent rs i (cols.getD i 0) = - (ent rs i (cols.getD i 0) * q) := by rw [Int.zero_sub, Int.neg_mul, Int.mul_comm]
      rw [h3]
      omega
    · rw [if_neg e1]
      exact R.rdj h (by omega)
  · rw [hE, if_neg (show ¬ j = h by omega)]
    exact R.bnd0 h hh c
  · rw [hE]
    split
    · rename_i e1
      have b1 := R.bnd0 i (Nat.le_refl _) c
      have b2 := R.bnd2 j hj (Nat.le_refl _) c
      have b3 := R.bnd2 j hj (Nat.le_refl _) (cols.getD i 0)
      have b4 : q.natAbs < 2 ^ ((e + 1) * (i + 1)) := by
        rw [hq]
        exact Nat.lt_of_le_of_lt (fdiv_abs (R.pos i hi)) b3
      have b5 : ((0 - q) * ent rs i c).natAbs ≤ 2 ^ ((e + 1) * (i + 1)) * 2 ^ e := by
        rw [Int.natAbs_mul, Int.zero_sub, Int.natAbs_neg]
        exact Nat.mul_le_mul (Nat.le_of_lt b4) (Nat.le_of_lt b1)
      have b6 : (2 : Nat) ^ ((e + 1) * (i + 2)) = 2 ^ ((e + 1) * (i + 1)) * 2 ^ e * 2 := by
        rw [show (e + 1) * (i + 2) = (e + 1) * (i + 1) + e + 1 by rw [Nat.mul_add, Nat.mul_add]; omega, Nat.pow_succ, Nat.pow_add]
      have b7 : (2 : Nat) ^ ((e + 1) * (i + 1)) ≤ 2 ^ ((e + 1) * (i + 1)) * 2 ^ e := Nat.le_mul_of_pos_right _ (Nat.two_pow_pos _)
      rw [b6]
      have := Int.natAbs_add_le ((0 - q) * ent rs i c) (ent rs j c)
      omega
    · exact R.bnd1 h (by omega) c
  · rw [hE, if_neg (show ¬ j = h by omega)]
    exact R.bnd2 h hh (by omega) c
theorem Red.next {n e i : Nat} {cols : List Nat} {rs : List (List Int)} (R : Red n cols e i i rs) : Red n cols e (i + 1) 0 rs := by
  refine ⟨R.len, R.row, R.zer, R.pos, fun g hg h hh => ?_, fun h hh => absurd hh (Nat.not_lt_zero _), fun h hh => R.bnd0 h (by omega), fun h hh => absurd hh (Nat.not_lt_zero _), fun h hh _ c => ?_⟩
  · by_cases e1 : g = i
    · subst e1
      exact R.rdj h hh
    · exact R.red g (by omega) h hh
  · by_cases e1 : h = i
    · subst e1
      exact Nat.lt_of_lt_of_le (R.bnd0 h (Nat.le_refl _) c) (Nat.pow_le_pow_right (by decide) (by
        have : (e + 1) * 1 ≤ (e + 1) * (h + 1 + 1) := Nat.mul_le_mul_left _ (by omega)
        omega))
    · exact R.bnd1 h (by omega) c
theorem Red.piv {n e i j : Nat} {cols : List Nat} {rs : List (List Int)} (R : Red n cols e i j rs) {h : Nat} (hh : h < rs.length) (hc : cols.getD h 0 < n) : pv (rs.getD h []) = cols.getD h 0 := by
  refine pv_eq (by rw [R.row h hh]; exact hc) ?_ fun c hcc => R.zer h hh c hcc
  have : ent rs h (cols.getD h 0) ≠ 0 := by have := R.pos h hh; omega
  exact this
theorem Red.isB {n e j : Nat} {cols : List Nat} {rs : List (List Int)} (R : Red n cols e cols.length j rs) (asc : cols.Pairwise (· < ·)) (hc : ∀ c ∈ cols, c < n) : IsB n rs := by
  have hcn : ∀ h < rs.length, cols.getD h 0 < n := fun h hh => hc _ (getD_mem (by rw [← R.len]; exact hh))
  have hp : ∀ h < rs.length, pv (rs.getD h []) = cols.getD h 0 := fun h hh => R.piv hh (hcn h hh)
  have hm : rs.map pv = cols := by
    refine List.ext_getElem (by rw [List.length_map]; exact R.len) fun h h1 h2 => ?_
    rw [List.length_map] at h1
    rw [List.getElem_map]
    have := hp h h1
    rw [List.getD_eq_getElem?_getD, List.getElem?_eq_getElem h1, List.getD_eq_getElem?_getD, List.getElem?_eq_getElem h2] at this
    exact this
  refine ⟨fun r hr => ?_, fun r hr => ?_, by rw [hm]; exact asc, fun i hi => ?_, fun i hi k hk => ?_⟩
  · obtain ⟨h, hh, rfl⟩ := mem_getD (d := []) hr
    exact R.row h hh
  · obtain ⟨h, hh, rfl⟩ := mem_getD (d := []) hr
    rw [hp h hh]
    exact hcn h hh
  · rw [hp i hi]
    exact Int.le_of_lt (R.pos i hi)
  · rw [hp i hi]
    exact R.red i (by rw [← R.len]; exact hi) k hk

theorem wp_intB {k : Bool} {st : Sto} {Q : D → Sto → Prop} (q : Q (.int (if k then 1 else 0)) st) : Wp (intD (.bl k)) st Q := ⟨_, _, rfl, q⟩
theorem plD_row (n : Nat) (xs : List Int) : plD (n + 1) (rowD xs) = true := by simpa only [rowD, plD] using plDs_ints n xs
theorem plD_mat (n : Nat) (rs : List (List Int)) : plD (n + 2) (matD rs) = true := by
  simp only [matD, plD]
  refine plDs_all fun d hd => ?_
  obtain ⟨r, _, rfl⟩ := List.mem_map.mp hd
  exact plD_row n r
theorem puD_app {xs ys : List D} : puD (.tup (xs ++ ys)) = (puD (.tup xs) && puD (.tup ys)) := by
  simp only [puD]
  induction xs with
  | nil => simp [puDs]
  | cons x xs ih => simp only [List.cons_append, puDs, ih, Bool.and_assoc]
theorem puD_sub {xs ys : List D} (h : puD (.tup ys) = true) (hs : ∀ x ∈ xs, x ∈ ys) : puD (.tup xs) = true := by
  simp only [puD] at h ⊢
  exact puDs_iff.mpr fun x hx => puDs_iff.mp h x (hs x hx)
theorem puD_in {xs : List D} (h : puD (.tup xs) = true) {x : D} (hx : x ∈ xs) : puD x = true := puDs_iff.mp (by simpa only [puD] using h) x hx
theorem puD_one {x : D} (h : puD x = true) : puD (.tup [x]) = true := by simp only [puD, puDs, h, Bool.and_self]
theorem puD_ints (xs : List Int) : puD (.tup (xs.map .int)) = true := puD_row xs
theorem wp_repT {xs : List D} {j : Int} {st : Sto} {Q : D → Sto → Prop} (hx : xs.isEmpty = false) (h1 : 1 ≤ j) (h2 : j ≤ 1000) (h3 : xs.length ≤ 1000) (q : Q (.tup (List.replicate j.toNat xs).flatten) st) : Wp (repD (.tup xs) (.int j)) st Q := by
  by_cases e : j = 1
  · subst e
    have : (List.replicate (1 : Int).toNat xs).flatten = xs := by simp
    rw [this] at q
    exact ⟨_, _, rfl, q⟩
  · refine ⟨_, _, ?_, q⟩
    simp only [repD, e, if_false]
    refine okIf_true ?_
    rw [Bool.and_eq_true, hx]
    exact ⟨rfl, decide_eq_true ⟨by omega, h2, h3⟩⟩

theorem asc_len {n : Nat} : ∀ {l : List Nat} {lo : Nat}, l.Pairwise (· < ·) → (∀ x ∈ l, lo ≤ x ∧ x < n) → l.length ≤ n - lo
  | [], _, _, _ => Nat.zero_le _
  | x :: l, lo, p, h => by
    rw [List.pairwise_cons] at p
    have h1 := h x (by simp)
    have := asc_len (lo := x + 1) p.2 fun y hy => ⟨p.1 y hy, (h y (by simp [hy])).2⟩
    rw [List.length_cons]
    omega
theorem IsB.count {n : Nat} {rs : List (List Int)} (b : IsB n rs) : rs.length ≤ n := by
  have := asc_len (lo := 0) b.asc fun x hx => ⟨Nat.zero_le _, by
    obtain ⟨r, hr, rfl⟩ := List.mem_map.mp hx
    exact b.piv r hr⟩
  rwa [List.length_map] at this
theorem wp_isBl {j k : Bool} {st : Sto} {Q : D → Sto → Prop} (q : Q (.bl (decide (j = k))) st) : Wp (isD false (.bl j) (.bl k)) st Q := ⟨_, _, rfl, by rw [Bool.false_xor]; exact q⟩
theorem wp_neB {j k : Bool} {st : Sto} {Q : D → Sto → Prop} (q : Q (.bl (j != k)) st) : Wp (eqD true (.bl j) (.bl k)) st Q := wp_neP (a' := .bl j) (b' := .bl k) (n := 0) (m := 0) rfl rfl rfl rfl (by decide) (by decide) q
theorem wp_eqB {j k : Bool} {st : Sto} {Q : D → Sto → Prop} (q : Q (.bl (j == k)) st) : Wp (eqD false (.bl j) (.bl k)) st Q := wp_eqP (a' := .bl j) (b' := .bl k) (n := 0) (m := 0) rfl rfl rfl rfl (by decide) (by decide) q
end Mir

namespace Lk05
open PySem PySem.Spec PyProof.Rows L2 Mir
def topS (i : Nat) : Stmt := PySem.Challenge.pw_hushgrain_k05_bases_of_any_object.main.body.getD i (.Pass ⟨0, 0, 0, 0⟩)
abbrev st_is_integer : Stmt := topS 1
abbrev st_is_form : Stmt := topS 3
abbrev st_pivot_of : Stmt := topS 5
abbrev st_is_basis : Stmt := topS 6
abbrev st__law_draw : Stmt := topS 8
abbrev st__law_integer : Stmt := topS 9
abbrev st__law_plus : Stmt := topS 10
abbrev st__law_basis : Stmt := topS 11
abbrev st__law_any : Stmt := topS 12
abbrev st__law_changed : Stmt := topS 13
abbrev st__law_is_basis : Stmt := topS 14
abbrev st_law : Stmt := topS 15
/-! what the top leaves -/
structure Top (K : PySem.W.Frag) (mg : Str → Option Value) : Prop where
  z_all : mg "all" = none
  z_any : mg "any" = none
  z_bool : mg "bool" = none
  z_enumerate : mg "enumerate" = none
  z_int : mg "int" = none
  z_isinstance : mg "isinstance" = none
  z_len : mg "len" = none
  z_list : mg "list" = none
  z_range : mg "range" = none
  z_set : mg "set" = none
  z_sorted : mg "sorted" = none
  z_tuple : mg "tuple" = none
  z_zip : mg "zip" = none
  d_is_integer : Df K mg "is_integer" st_is_integer ["thing"] []
  d_is_form : Df K mg "is_form" st_is_form ["thing", "size"] []
  d_pivot_of : Df K mg "pivot_of" st_pivot_of ["vector"] []
  d_is_basis : Df K mg "is_basis" st_is_basis ["thing", "size"] []
  d__law_draw : Df K mg "_law_draw" st__law_draw ["stream", "count"] []
  d__law_integer : Df K mg "_law_integer" st__law_integer ["thing"] []
  d__law_plus : Df K mg "_law_plus" st__law_plus ["factor", "one", "other"] []
  d__law_basis : Df K mg "_law_basis" st__law_basis ["stream", "size"] []
  d__law_any : Df K mg "_law_any" st__law_any ["stream"] []
  d__law_changed : Df K mg "_law_changed" st__law_changed ["stream", "basis", "size"] []
  d__law_is_basis : Df K mg "_law_is_basis" st__law_is_basis ["thing", "size"] []
  d_law : Df K mg "law" st_law ["script"] []
section
variable {P : Program} {w : World} {K : PySem.W.Frag} {mg : Str → Option Value} {base : Heap} {cl : Nat → Addr}
/-! is_integer -/
noncomputable  def b_is_integer : SM := (sRet (eAnd (eUn (isiD ["int"]) (eVar 0)) (eNot (eUn (isiD ["bool"]) (eVar 0)))))
noncomputable def m_is_integer : List D → M D := runB 1 b_is_integer
theorem sc_is_integer : FnScope ["thing"] ["thing"] (defScope st_is_integer) := ⟨rfl, rfl, rfl, by decide +kernel, rfl, by decide +kernel, by decide +kernel⟩
theorem ok_is_integer (T : Top K mg) : Pr P w K mg base ⟨K, cl⟩ "is_integer" 1 1 [] m_is_integer := by
  refine pr_mk (k := 0) b_is_integer T.d_is_integer sc_is_integer rfl rfl rfl rfl fun f cdv A outer s H E c hp => ?_
  exact (s_one (s_ret (w_and (w_isi (T := "int") (w_var 0) c.hK T.z_isinstance T.z_int boot_int) (w_one (w_not (w_isi (T := "bool") (w_var 0) c.hK T.z_isinstance T.z_bool boot_bool))))))
/-! is_form -/
noncomputable  def b_is_form : SM := (sRet (eAnd (eUn (isiD ["tuple"]) (eVar 0)) (eAnd (eOp (eqD false) (eFn (fn1 lenD) (aCons (eVar 0) aNil)) (eVar 1)) (eFn (fn1 allD) (aCons (eLC (itSeq (eVar 0)) (.name 2) (fun _ => pure true) (eCall 1 m_is_integer [] (aCons (eVar 2) aNil)) [2]) aNil)))))
noncomputable def m_is_form : List D → M D := runB 3 b_is_form
theorem sc_is_form : FnScope ["thing", "size", "entry"] ["thing", "size"] (defScope st_is_form) := ⟨rfl, rfl, rfl, by decide +kernel, rfl, by decide +kernel, by decide +kernel⟩
theorem ok_is_form (T : Top K mg) : Pr P w K mg base ⟨K, cl⟩ "is_form" 2 2 [] m_is_form := by
  have G_is_integer := ok_is_integer (P := P) (w := w) (base := base) (cl := cl) T
  refine pr_mk (k := 1) b_is_form T.d_is_form sc_is_form rfl rfl rfl rfl fun f cdv A outer s H E c hp => ?_
  exact (s_one (s_ret (w_and (w_isi (T := "tuple") (w_var 0) c.hK T.z_isinstance T.z_tuple boot_tuple) (w_and (w_eq c (w_len c T.z_len (w_var 0)) (w_var 1)) (w_one (w_all c T.z_all (w_lc c (own := [("entry", 2)]) (i_seq c.hK (w_var 0)) (blkOk_by (by kernel_rfl)) (fun _ _ _ _ _ => (g_name 2 (c.blk _ _ _ _ _).nd)) (fun _ _ _ _ _ => ts_nil) (fun _ _ _ _ _ => (w_def (c.blk _ _ _ _ _) G_is_integer (by decide) (a_cons (w_var 2) a_nil))))))))))
/-! pivot_of -/
noncomputable  def b_pivot_of : SM := (sSeq (sFor (itEnum (eVar 0)) (.tup [(.name 1), (.name 2)]) (sIf (tst (eOp (eqD true) (eVar 2) (eC (.int 0)))) (sRet (eVar 1)) sNil)) (sRet (eC .non)))
noncomputable def m_pivot_of : List D → M D := runB 3 b_pivot_of
theorem sc_pivot_of : FnScope ["vector", "column", "entry"] ["vector"] (defScope st_pivot_of) := ⟨rfl, rfl, rfl, by decide +kernel, rfl, by decide +kernel, by decide +kernel⟩
theorem ok_pivot_of (T : Top K mg) : Pr P w K mg base ⟨K, cl⟩ "pivot_of" 1 1 [] m_pivot_of := by
  refine pr_mk (k := 0) b_pivot_of T.d_pivot_of sc_pivot_of rfl rfl rfl rfl fun f cdv A outer s H E c hp => ?_
  exact (s_cons (s_for hp c.calm (i_enum (w_var 0) c.hK T.z_enumerate) (g_tup c.hK c.calm (gs_cons (g_name 1 c.nd) (gs_cons (g_name 2 c.nd) gs_nil))) (s_one (s_if (t_ne c (w_var 2) w_int) (s_one (s_ret (w_var 1))) s_nil))) (s_one (s_ret w_non)))
/-! is_basis -/
noncomputable  def b_is_basis : SM := (sSeq (sIf (tOrM (tNotM (tst (eUn (isiD ["tuple"]) (eVar 0)))) (tNotM (tst (eFn (fn1 allD) (aCons (eLC (itSeq (eVar 0)) (.name 6) (fun _ => pure true) (eCall 2 m_is_form [] (aCons (eVar 6) (aCons (eVar 1) aNil))) [6]) aNil))))) (sRet (eC (.bl false))) sNil) (sSeq (sSet (.name 2) (eLC (itSeq (eVar 0)) (.name 6) (fun _ => pure true) (eCall 1 m_pivot_of [] (aCons (eVar 6) aNil)) [6])) (sSeq (sIf (tOrM (tst (eOp (inD false) (eC .non) (eVar 2))) (tOrM (tst (eOp (eqD true) (eVar 2) (eFn (fn1 sortedD) (aCons (eVar 2) aNil)))) (tst (eOp (eqD true) (eUn lenSetD (eVar 2)) (eFn (fn1 lenD) (aCons (eVar 2) aNil)))))) (sRet (eC (.bl false))) sNil) (sSeq (sFor (itEnum (eVar 2)) (.tup [(.name 3), (.name 4)]) (sSeq (sSet (.name 5) (eOp ixD (eOp ixD (eVar 0) (eVar 3)) (eVar 4))) (sIf (tOrM (tst (eOp ltD (eVar 5) (eC (.int 0)))) (tNotM (tst (eFn (fn1 allD) (aCons (eLC (itSeq (eSlice (eVar 0) oNone (oSome (eVar 3)))) (.name 6) (fun _ => pure true) (eChain leD ltD (eC (.int 0)) (eOp ixD (eVar 6) (eVar 4)) (eVar 5)) [6]) aNil))))) (sRet (eC (.bl false))) sNil))) (sRet (eC (.bl true)))))))
noncomputable def m_is_basis : List D → M D := runB 7 b_is_basis
theorem sc_is_basis : FnScope ["thing", "size", "pivots", "low", "column", "pivot", "row"] ["thing", "size"] (defScope st_is_basis) := ⟨rfl, rfl, rfl, by decide +kernel, rfl, by decide +kernel, by decide +kernel⟩
theorem ok_is_basis (T : Top K mg) : Pr P w K mg base ⟨K, cl⟩ "is_basis" 3 2 [] m_is_basis := by
  have G_is_form := ok_is_form (P := P) (w := w) (base := base) (cl := cl) T
  have G_pivot_of := ok_pivot_of (P := P) (w := w) (base := base) (cl := cl) T
  refine pr_mk (k := 2) b_is_basis T.d_is_basis sc_is_basis rfl rfl rfl rfl fun f cdv A outer s H E c hp => ?_
  exact (s_cons (s_if (t_or (t_not (t_val (w_isi (T := "tuple") (w_var 0) c.hK T.z_isinstance T.z_tuple boot_tuple))) (t_or1 (t_not (t_val (w_all c T.z_all (w_lc c (own := [("row", 6)]) (i_seq c.hK (w_var 0)) (blkOk_by (by kernel_rfl)) (fun _ _ _ _ _ => (g_name 6 (c.blk _ _ _ _ _).nd)) (fun _ _ _ _ _ => ts_nil) (fun _ _ _ _ _ => (w_def (c.blk _ _ _ _ _) G_is_form (by decide) (a_cons (w_var 6) (a_cons (w_var 1) a_nil)))))))))).pt (s_one (s_ret w_bl)) s_nil) (s_cons (s_setLC c 2 (own := [("row", 6)]) (i_seq c.hK (w_var 0)) (blkOk_by (by kernel_rfl)) (fun _ _ _ _ _ => (g_name 6 (c.blk _ _ _ _ _).nd)) (fun _ _ _ _ _ => ts_nil) (fun _ _ _ _ _ => (w_def (c.blk _ _ _ _ _) G_pivot_of (by decide) (a_cons (w_var 6) a_nil))) (sw_true rfl rfl rfl (by decide +kernel))) (s_cons (s_if (t_or (t_in c w_non (w_var 2)) (t_or (t_ne c (w_var 2) (w_sorted c T.z_sorted (w_var 2))) (t_or1 (t_ne c (w_lenSet c T.z_len T.z_set (w_var 2)) (w_len c T.z_len (w_var 2)))))).pt (s_one (s_ret w_bl)) s_nil) (s_cons (s_for hp c.calm (i_enum (w_var 2) c.hK T.z_enumerate) (g_tup c.hK c.calm (gs_cons (g_name 3 c.nd) (gs_cons (g_name 4 c.nd) gs_nil))) (s_cons (s_set 5 c.nd (w_ix c.hK c.u1 (w_ix c.hK c.u1 (w_var 0) (w_var 3)) (w_var 4))) (s_one (s_if (t_or (t_lt (w_var 5) w_int) (t_or1 (t_not (t_val (w_all c T.z_all (w_lc c (own := [("row", 6)]) (i_seq c.hK (w_slice c.hK (w_var 0) o_none (o_some (w_var 3)))) (blkOk_by (by kernel_rfl)) (fun _ _ _ _ _ => (g_name 6 (c.blk _ _ _ _ _).nd)) (fun _ _ _ _ _ => ts_nil) (fun _ _ _ _ _ => (w_chLeLt w_int (w_ix (c.blk _ _ _ _ _).hK (c.blk _ _ _ _ _).u1 (w_var 6) (w_var 4)) (w_var 5))))))))).pt (s_one (s_ret w_bl)) s_nil)))) (s_one (s_ret w_bl))))))
/-! _law_draw -/
noncomputable  def b__law_draw : SM := (sSeq (sSetI (eOp addD (eOp ixD (eVar 0) (eC (.int 2))) (eC (.int 1))) (eVar 0) (eC (.int 2))) (sSeq (sIf (tAndM (tst (eOp (eqD false) (eOp ixD (eVar 0) (eC (.int 1))) (eC (.int 0)))) (tst (eOp (eqD true) (eOp ixD (eVar 0) (eC (.int 0))) (eLst aNil)))) (sSeq (sSetI (eLM (fun d ds => fn1 (popD d) ds) (eOp ixD (eVar 0) (eC (.int 0))) (aCons (eC (.int 0)) aNil)) (eVar 0) (eC (.int 1))) (sIf (tst (eOp ltD (eOp ixD (eVar 0) (eC (.int 1))) (eOp powD (eC (.int 10)) (eC (.int 18))))) (sSeq (sSetI (eOp modD (eOp addD (eOp mulD (eOp ixD (eVar 0) (eC (.int 3))) (eC (.int 39373))) (eOp ixD (eVar 0) (eC (.int 1)))) (eC (.int 2147483647))) (eVar 0) (eC (.int 3))) (sSetI (eC (.int 0)) (eVar 0) (eC (.int 1)))) sNil)) sNil) (sSeq (sIf (tst (eOp gtD (eOp ixD (eVar 0) (eC (.int 1))) (eC (.int 0)))) (sSeq (sSet (.name 2) (eOp modD (eOp ixD (eVar 0) (eC (.int 1))) (eVar 1))) (sSeq (sSetI (eOp fdivD (eOp ixD (eVar 0) (eC (.int 1))) (eVar 1)) (eVar 0) (eC (.int 1))) (sRet (eVar 2)))) sNil) (sSeq (sSet (.name 2) (eOp modD (eOp powD (eOp addD (eOp addD (eOp ixD (eVar 0) (eC (.int 3))) (eOp mulD (eC (.int 7919)) (eOp ixD (eVar 0) (eC (.int 2))))) (eC (.int 104729))) (eC (.int 5))) (eC (.int 2147483647)))) (sRet (eOp modD (eOp modD (eOp mulD (eOp addD (eVar 2) (eOp ixD (eVar 0) (eC (.int 2)))) (eC (.int 48271))) (eC (.int 2147483629))) (eVar 1)))))))
noncomputable def m__law_draw : List D → M D := runB 3 b__law_draw
theorem sc__law_draw : FnScope ["stream", "count", "number"] ["stream", "count"] (defScope st__law_draw) := ⟨rfl, rfl, rfl, by decide +kernel, rfl, by decide +kernel, by decide +kernel⟩
theorem ok__law_draw (T : Top K mg) : Pr P w K mg base ⟨K, cl⟩ "_law_draw" 1 2 [] m__law_draw := by
  refine pr_mk (k := 0) b__law_draw T.d__law_draw sc__law_draw rfl rfl rfl rfl fun f cdv A outer s H E c hp => ?_
  exact (s_cons (s_setI c (w_add c (w_ix c.hK c.u1 (w_var 0) w_int) w_int) (w_var 0) w_int) (s_cons (s_if (t_and (t_eq c (w_ix c.hK c.u1 (w_var 0) w_int) w_int) (t_and1 (t_ne c (w_ix c.hK c.u1 (w_var 0) w_int) (w_lst a_nil)))).pt (s_cons (s_setI c (w_lm c md_pop (pe_bm PySem.F.plainAttrs_list PySem.F.slot_list_pop PySem.F.type_list_pop mt_popAt (w_ix c.hK c.u1 (w_var 0) w_int) (a_cons w_int a_nil))) (w_var 0) w_int) (s_one (s_if (t_lt (w_ix c.hK c.u1 (w_var 0) w_int) (w_pow w_int w_int)) (s_cons (s_setI c (w_mod (w_add c (w_mul (w_ix c.hK c.u1 (w_var 0) w_int) w_int) (w_ix c.hK c.u1 (w_var 0) w_int)) w_int) (w_var 0) w_int) (s_one (s_setI c w_int (w_var 0) w_int))) s_nil))) s_nil) (s_cons (s_if (t_gt (w_ix c.hK c.u1 (w_var 0) w_int) w_int) (s_cons (s_set 2 c.nd (w_mod (w_ix c.hK c.u1 (w_var 0) w_int) (w_var 1))) (s_cons (s_setI c (w_fdiv (w_ix c.hK c.u1 (w_var 0) w_int) (w_var 1)) (w_var 0) w_int) (s_one (s_ret (w_var 2))))) s_nil) (s_cons (s_set 2 c.nd (w_mod (w_pow (w_add c (w_add c (w_ix c.hK c.u1 (w_var 0) w_int) (w_mul w_int (w_ix c.hK c.u1 (w_var 0) w_int))) w_int) w_int) w_int)) (s_one (s_ret (w_mod (w_mod (w_mul (w_add c (w_var 2) (w_ix c.hK c.u1 (w_var 0) w_int)) w_int) w_int) (w_var 1))))))))
/-! _law_integer -/
noncomputable  def b__law_integer : SM := (sRet (eAnd (eUn (isiD ["int"]) (eVar 0)) (eNot (eUn (isiD ["bool"]) (eVar 0)))))
noncomputable def m__law_integer : List D → M D := runB 1 b__law_integer
theorem sc__law_integer : FnScope ["thing"] ["thing"] (defScope st__law_integer) := ⟨rfl, rfl, rfl, by decide +kernel, rfl, by decide +kernel, by decide +kernel⟩
theorem ok__law_integer (T : Top K mg) : Pr P w K mg base ⟨K, cl⟩ "_law_integer" 1 1 [] m__law_integer := by
  refine pr_mk (k := 0) b__law_integer T.d__law_integer sc__law_integer rfl rfl rfl rfl fun f cdv A outer s H E c hp => ?_
  exact (s_one (s_ret (w_and (w_isi (T := "int") (w_var 0) c.hK T.z_isinstance T.z_int boot_int) (w_one (w_not (w_isi (T := "bool") (w_var 0) c.hK T.z_isinstance T.z_bool boot_bool))))))
/-! _law_plus -/
noncomputable  def b__law_plus : SM := (sRet (eFn (fn1 tupleD) (aCons (eLC (itZip (eVar 1) (eVar 2)) (.tup [(.name 3), (.name 4)]) (fun _ => pure true) (eOp addD (eOp mulD (eVar 0) (eVar 3)) (eVar 4)) [3, 4]) aNil)))
noncomputable def m__law_plus : List D → M D := runB 5 b__law_plus
theorem sc__law_plus : FnScope ["factor", "one", "other", "a", "b"] ["factor", "one", "other"] (defScope st__law_plus) := ⟨rfl, rfl, rfl, by decide +kernel, rfl, by decide +kernel, by decide +kernel⟩
theorem ok__law_plus (T : Top K mg) : Pr P w K mg base ⟨K, cl⟩ "_law_plus" 1 3 [] m__law_plus := by
  refine pr_mk (k := 0) b__law_plus T.d__law_plus sc__law_plus rfl rfl rfl rfl fun f cdv A outer s H E c hp => ?_
  exact (s_one (s_ret (w_tuple c T.z_tuple (w_lc c (own := [("a", 3), ("b", 4)]) (i_zip (w_var 1) (w_var 2) c.hK T.z_zip) (blkOk_by (by kernel_rfl)) (fun _ _ _ _ _ => (g_tup (c.blk _ _ _ _ _).hK (c.blk _ _ _ _ _).calm (gs_cons (g_name 3 (c.blk _ _ _ _ _).nd) (gs_cons (g_name 4 (c.blk _ _ _ _ _).nd) gs_nil)))) (fun _ _ _ _ _ => ts_nil) (fun _ _ _ _ _ => (w_add (c.blk _ _ _ _ _) (w_mul (w_var 0) (w_var 3)) (w_var 4)))))))
/-! _law_basis -/
noncomputable  def b__law_basis : SM := (sSeq (sSet (.name 2) (eLst (aCons (eC (.int 1)) (aCons (eC (.int 1)) (aCons (eC (.int 2)) (aCons (eC (.int 3)) (aCons (eC (.int 4)) (aCons (eC (.int 6)) (aCons (eC (.int 12)) (aCons (eC (.int 35)) (aCons (eC (.int 1000003)) (aCons (eOp powD (eC (.int 10)) (eC (.int 40))) aNil)))))))))))) (sSeq (sSet (.name 3) (eLC (itR1 (eVar 1)) (.name 5) (tst (eOp gtD (eCall 2 m__law_draw [] (aCons (eVar 0) (aCons (eC (.int 4)) aNil))) (eC (.int 0)))) (eVar 5) [5])) (sSeq (sSet (.name 4) (eNew aNil)) (sSeq (sFor (itSeq (eVar 3)) (.name 5) (sSeq (sSet (.name 7) (eOp addN (eOp repD (eLst (aCons (eC (.int 0)) aNil)) (eVar 5)) (eLst (aCons (eOp ixD (eVar 2) (eCall 2 m__law_draw [] (aCons (eVar 0) (aCons (eC (.int 10)) aNil)))) aNil)))) (sSeq (sWhile (tst (eOp ltD (eFn (fn1 lenD) (aCons (eVar 7) aNil)) (eVar 1))) (sExpr (eLM (fun d ds => fn1 (appD d) ds) (eVar 7) (aCons (eOp ixD (eLst (aCons (eC (.int 0)) (aCons (eOp subD (eCall 2 m__law_draw [] (aCons (eVar 0) (aCons (eC (.int 7)) aNil))) (eC (.int 3))) (aCons (eCall 2 m__law_draw [] (aCons (eVar 0) (aCons (eOp powD (eC (.int 10)) (eC (.int 20))) aNil))) aNil)))) (eCall 2 m__law_draw [] (aCons (eVar 0) (aCons (eC (.int 3)) aNil)))) aNil)))) (sExpr (eLM (fun d ds => fn1 (appD d) ds) (eVar 4) (aCons (eFn (fn1 tupleD) (aCons (eVar 7) aNil)) aNil)))))) (sSeq (sFor (itEnum (eVar 3)) (.tup [(.name 6), (.name 5)]) (sFor (itR1 (eVar 6)) (.name 8) (sSeq (sSet (.name 9) (eOp fdivD (eOp ixD (eOp ixD (eVar 4) (eVar 8)) (eVar 5)) (eOp ixD (eOp ixD (eVar 4) (eVar 6)) (eVar 5)))) (sSetI (eCall 3 m__law_plus [] (aCons (eOp subD (eC (.int 0)) (eVar 9)) (aCons (eOp ixD (eVar 4) (eVar 6)) (aCons (eOp ixD (eVar 4) (eVar 8)) aNil)))) (eVar 4) (eVar 8))))) (sRet (eFn (fn1 tupleD) (aCons (eVar 4) aNil))))))))
noncomputable def m__law_basis : List D → M D := runB 10 b__law_basis
theorem sc__law_basis : FnScope ["stream", "size", "menu", "columns", "rows", "column", "low", "row", "high", "factor"] ["stream", "size"] (defScope st__law_basis) := ⟨rfl, rfl, rfl, by decide +kernel, rfl, by decide +kernel, by decide +kernel⟩
theorem ok__law_basis (T : Top K mg) : Pr P w K mg base ⟨K, cl⟩ "_law_basis" 2 2 [] m__law_basis := by
  have G__law_draw := ok__law_draw (P := P) (w := w) (base := base) (cl := cl) T
  have G__law_plus := ok__law_plus (P := P) (w := w) (base := base) (cl := cl) T
  refine pr_mk (k := 1) b__law_basis T.d__law_basis sc__law_basis rfl rfl rfl rfl fun f cdv A outer s H E c hp => ?_
  exact (s_cons (s_set 2 c.nd (w_lst (a_cons w_int (a_cons w_int (a_cons w_int (a_cons w_int (a_cons w_int (a_cons w_int (a_cons w_int (a_cons w_int (a_cons w_int (a_cons (w_pow w_int w_int) a_nil)))))))))))) (s_cons (s_setLC c 3 (own := [("column", 5)]) (i_rng1 (w_var 1) T.z_range) (blkOk_by (by kernel_rfl)) (fun _ _ _ _ _ => (g_name 5 (c.blk _ _ _ _ _).nd)) (fun _ _ _ _ _ => (ts_one (t_gt (w_def (c.blk _ _ _ _ _) G__law_draw (by decide) (a_cons (w_var 0) (a_cons w_int a_nil))) w_int))) (fun _ _ _ _ _ => (w_var 5)) (sw_true rfl rfl rfl (by decide +kernel))) (s_cons (s_set 4 c.nd (w_new a_nil)) (s_cons (s_for hp c.calm (i_seq c.hK (w_var 3)) (g_name 5 c.nd) (s_cons (s_set 7 c.nd (w_addN (w_rep c (w_lst (a_cons w_int a_nil)) (w_var 5)) (w_lst (a_cons (w_ix c.hK c.u1 (w_var 2) (w_def c G__law_draw (by decide) (a_cons (w_var 0) (a_cons w_int a_nil)))) a_nil)))) (s_cons (s_while hp (t_lt (w_len c T.z_len (w_var 7)) (w_var 1)) (s_one (s_expr (w_lm c md_append (pe_bm PySem.F.plainAttrs_list PySem.F.slot_list_append PySem.F.type_list_append mt_append (w_var 7) (a_cons (w_ix c.hK c.u1 (w_lst (a_cons w_int (a_cons (w_sub (w_def c G__law_draw (by decide) (a_cons (w_var 0) (a_cons w_int a_nil))) w_int) (a_cons (w_def c G__law_draw (by decide) (a_cons (w_var 0) (a_cons (w_pow w_int w_int) a_nil))) a_nil)))) (w_def c G__law_draw (by decide) (a_cons (w_var 0) (a_cons w_int a_nil)))) a_nil)))))) (s_one (s_expr (w_lm c md_append (pe_bm PySem.F.plainAttrs_list PySem.F.slot_list_append PySem.F.type_list_append mt_append (w_var 4) (a_cons (w_tuple c T.z_tuple (w_var 7)) a_nil)))))))) (s_cons (s_for hp c.calm (i_enum (w_var 3) c.hK T.z_enumerate) (g_tup c.hK c.calm (gs_cons (g_name 6 c.nd) (gs_cons (g_name 5 c.nd) gs_nil))) (s_one (s_for hp c.calm (i_rng1 (w_var 6) T.z_range) (g_name 8 c.nd) (s_cons (s_set 9 c.nd (w_fdiv (w_ix c.hK c.u1 (w_ix c.hK c.u1 (w_var 4) (w_var 8)) (w_var 5)) (w_ix c.hK c.u1 (w_ix c.hK c.u1 (w_var 4) (w_var 6)) (w_var 5)))) (s_one (s_setI c (w_def c G__law_plus (by decide) (a_cons (w_sub w_int (w_var 9)) (a_cons (w_ix c.hK c.u1 (w_var 4) (w_var 6)) (a_cons (w_ix c.hK c.u1 (w_var 4) (w_var 8)) a_nil)))) (w_var 4) (w_var 8))))))) (s_one (s_ret (w_tuple c T.z_tuple (w_var 4)))))))))
/-! _law_any -/
noncomputable  def b__law_any : SM := (sSeq (sSet (.name 1) (eLst (aCons (eC .non) (aCons (eC (.bl true)) (aCons (eC (.bl false)) (aCons (eC (.int 0)) (aCons (eC (.int 1)) (aCons (eUn negD (eC (.int 1))) (aCons (eC (.int 7)) (aCons (eOp powD (eC (.int 10)) (eC (.int 30))) (aCons (eC (.str "")) (aCons (eC (.str "a")) (aCons (eTup aNil) (aCons (eLst aNil) (aCons (eTup (aCons (eC (.int 0)) aNil)) (aCons (eLst (aCons (eC (.int 0)) aNil)) (aCons (eTup (aCons (eC (.bl true)) aNil)) (aCons (eTup (aCons (eC (.str "a")) aNil)) (aCons (eTup (aCons (eTup (aCons (eC (.int 1)) aNil)) aNil)) (aCons (eC (.str "primal")) aNil)))))))))))))))))))) (sRet (eOp ixD (eVar 1) (eCall 2 m__law_draw [] (aCons (eVar 0) (aCons (eC (.int 18)) aNil))))))
noncomputable def m__law_any : List D → M D := runB 2 b__law_any
theorem sc__law_any : FnScope ["stream", "menu"] ["stream"] (defScope st__law_any) := ⟨rfl, rfl, rfl, by decide +kernel, rfl, by decide +kernel, by decide +kernel⟩
theorem ok__law_any (T : Top K mg) : Pr P w K mg base ⟨K, cl⟩ "_law_any" 2 1 [] m__law_any := by
  have G__law_draw := ok__law_draw (P := P) (w := w) (base := base) (cl := cl) T
  refine pr_mk (k := 1) b__law_any T.d__law_any sc__law_any rfl rfl rfl rfl fun f cdv A outer s H E c hp => ?_
  exact (s_cons (s_set 1 c.nd (w_lst (a_cons w_non (a_cons w_bl (a_cons w_bl (a_cons w_int (a_cons w_int (a_cons (w_neg w_int) (a_cons w_int (a_cons (w_pow w_int w_int) (a_cons w_str (a_cons w_str (a_cons (w_tup a_nil) (a_cons (w_lst a_nil) (a_cons (w_tup (a_cons w_int a_nil)) (a_cons (w_lst (a_cons w_int a_nil)) (a_cons (w_tup (a_cons w_bl a_nil)) (a_cons (w_tup (a_cons w_str a_nil)) (a_cons (w_tup (a_cons (w_tup (a_cons w_int a_nil)) a_nil)) (a_cons w_str a_nil)))))))))))))))))))) (s_one (s_ret (w_ix c.hK c.u1 (w_var 1) (w_def c G__law_draw (by decide) (a_cons (w_var 0) (a_cons w_int a_nil)))))))
/-! _law_changed -/
noncomputable  def b__law_changed : SM := (sSeq (sSet (.name 3) (eCall 2 m__law_draw [] (aCons (eVar 0) (aCons (eC (.int 12)) aNil)))) (sSeq (sIf (tOrM (tst (eOp gtD (eVar 3) (eC (.int 8)))) (tst (eOp (eqD false) (eVar 1) (eTup aNil)))) (sRet (eOp ixD (eLst (aCons (eVar 1) (aCons (eCall 1 m__law_any [] (aCons (eVar 0) aNil)) aNil))) (eFn (fn1 intD) (aCons (eOp gtD (eVar 3) (eC (.int 10))) aNil)))) sNil) (sSeq (sSet (.name 4) (eCall 2 m__law_draw [] (aCons (eVar 0) (aCons (eFn (fn1 lenD) (aCons (eVar 1) aNil)) aNil)))) (sSeq (sSet (.name 5) (eCall 2 m__law_draw [] (aCons (eVar 0) (aCons (eVar 2) aNil)))) (sSeq (sSet (.name 6) (eOp ixD (eVar 1) (eVar 4))) (sSeq (sSet (.name 7) (eNew (aCons (eVar 6) (aCons (eVar 6) (aCons (eOp addD (eOp addD (eSlice (eVar 6) oNone (oSome (eVar 5))) (eTup (aCons (eOp addD (eOp ixD (eVar 6) (eVar 5)) (eOp ixD (eLst (aCons (eC (.int 1)) (aCons (eUn negD (eC (.int 1))) aNil))) (eCall 2 m__law_draw [] (aCons (eVar 0) (aCons (eC (.int 2)) aNil))))) aNil))) (eSlice (eVar 6) (oSome (eOp addD (eVar 5) (eC (.int 1)))) oNone)) aNil))))) (sSeq (sSet (.name 7) (eOp addN (eVar 7) (eLst (aCons (eFn (fn1 tupleD) (aCons (eLC (itSeq (eVar 6)) (.name 9) (fun _ => pure true) (eOp subD (eC (.int 0)) (eVar 9)) [9]) aNil)) (aCons (eOp repD (eTup (aCons (eC (.int 0)) aNil)) (eVar 2)) (aCons (eFn (fn1 listD) (aCons (eVar 6) aNil)) (aCons (eOp addD (eVar 6) (eTup (aCons (eC (.int 0)) aNil))) aNil))))))) (sSeq (sExpr (eLM (fun d ds => fn1 (appD d) ds) (eVar 7) (aCons (eOp addD (eOp addD (eSlice (eVar 6) oNone (oSome (eVar 5))) (eTup (aCons (eCall 1 m__law_any [] (aCons (eVar 0) aNil)) aNil))) (eSlice (eVar 6) (oSome (eOp addD (eVar 5) (eC (.int 1)))) oNone)) aNil))) (sSeq (sSet (.name 8) (eOp addD (eOp addD (eSlice (eVar 1) oNone (oSome (eVar 4))) (eTup (aCons (eOp ixD (eVar 7) (eOp modD (eVar 3) (eC (.int 8)))) aNil))) (eSlice (eVar 1) (oSome (eOp addD (eVar 4) (eC (.int 1)))) oNone))) (sSeq (sIf (tst (eOp (eqD false) (eVar 3) (eC (.int 0)))) (sRet (eOp addD (eSlice (eVar 1) (oSome (eVar 4)) oNone) (eSlice (eVar 1) oNone (oSome (eVar 4))))) sNil) (sSeq (sIf (tst (eOp (eqD false) (eVar 3) (eC (.int 1)))) (sRet (eOp addD (eSlice (eVar 1) oNone (oSome (eVar 4))) (eSlice (eVar 1) (oSome (eOp addD (eVar 4) (eC (.int 1)))) oNone))) sNil) (sSeq (sIf (tst (eOp (eqD false) (eVar 3) (eC (.int 8)))) (sRet (eOp ixD (eLst (aCons (eFn (fn1 listD) (aCons (eVar 1) aNil)) (aCons (eOp addD (eVar 1) (eTup (aCons (eVar 6) aNil))) aNil))) (eCall 2 m__law_draw [] (aCons (eVar 0) (aCons (eC (.int 2)) aNil))))) sNil) (sRet (eVar 8))))))))))))))
noncomputable def m__law_changed : List D → M D := runB 10 b__law_changed
theorem sc__law_changed : FnScope ["stream", "basis", "size", "way", "at", "column", "row", "some", "rows", "entry"] ["stream", "basis", "size"] (defScope st__law_changed) := ⟨rfl, rfl, rfl, by decide +kernel, rfl, by decide +kernel, by decide +kernel⟩
theorem ok__law_changed (T : Top K mg) : Pr P w K mg base ⟨K, cl⟩ "_law_changed" 3 3 [] m__law_changed := by
  have G__law_draw := ok__law_draw (P := P) (w := w) (base := base) (cl := cl) T
  have G__law_any := ok__law_any (P := P) (w := w) (base := base) (cl := cl) T
  refine pr_mk (k := 2) b__law_changed T.d__law_changed sc__law_changed rfl rfl rfl rfl fun f cdv A outer s H E c hp => ?_
  exact (s_cons (s_set 3 c.nd (w_def c G__law_draw (by decide) (a_cons (w_var 0) (a_cons w_int a_nil)))) (s_cons (s_if (t_or (t_gt (w_var 3) w_int) (t_or1 (t_eq c (w_var 1) (w_tup a_nil)))).pt (s_one (s_ret (w_ix c.hK c.u1 (w_lst (a_cons (w_var 1) (a_cons (w_def c G__law_any (by decide) (a_cons (w_var 0) a_nil)) a_nil))) (w_int1 T.z_int (w_gt (w_var 3) w_int))))) s_nil) (s_cons (s_set 4 c.nd (w_def c G__law_draw (by decide) (a_cons (w_var 0) (a_cons (w_len c T.z_len (w_var 1)) a_nil)))) (s_cons (s_set 5 c.nd (w_def c G__law_draw (by decide) (a_cons (w_var 0) (a_cons (w_var 2) a_nil)))) (s_cons (s_set 6 c.nd (w_ix c.hK c.u1 (w_var 1) (w_var 4))) (s_cons (s_set 7 c.nd (w_new (a_cons (w_var 6) (a_cons (w_var 6) (a_cons (w_add c (w_add c (w_slice c.hK (w_var 6) o_none (o_some (w_var 5))) (w_tup (a_cons (w_add c (w_ix c.hK c.u1 (w_var 6) (w_var 5)) (w_ix c.hK c.u1 (w_lst (a_cons w_int (a_cons (w_neg w_int) a_nil))) (w_def c G__law_draw (by decide) (a_cons (w_var 0) (a_cons w_int a_nil))))) a_nil))) (w_slice c.hK (w_var 6) (o_some (w_add c (w_var 5) w_int)) o_none)) a_nil))))) (s_cons (s_set 7 c.nd (w_addN (w_var 7) (w_lst (a_cons (w_tuple c T.z_tuple (w_lc c (own := [("entry", 9)]) (i_seq c.hK (w_var 6)) (blkOk_by (by kernel_rfl)) (fun _ _ _ _ _ => (g_name 9 (c.blk _ _ _ _ _).nd)) (fun _ _ _ _ _ => ts_nil) (fun _ _ _ _ _ => (w_sub w_int (w_var 9))))) (a_cons (w_rep c (w_tup (a_cons w_int a_nil)) (w_var 2)) (a_cons (w_list c T.z_list (w_var 6)) (a_cons (w_add c (w_var 6) (w_tup (a_cons w_int a_nil))) a_nil))))))) (s_cons (s_expr (w_lm c md_append (pe_bm PySem.F.plainAttrs_list PySem.F.slot_list_append PySem.F.type_list_append mt_append (w_var 7) (a_cons (w_add c (w_add c (w_slice c.hK (w_var 6) o_none (o_some (w_var 5))) (w_tup (a_cons (w_def c G__law_any (by decide) (a_cons (w_var 0) a_nil)) a_nil))) (w_slice c.hK (w_var 6) (o_some (w_add c (w_var 5) w_int)) o_none)) a_nil)))) (s_cons (s_set 8 c.nd (w_add c (w_add c (w_slice c.hK (w_var 1) o_none (o_some (w_var 4))) (w_tup (a_cons (w_ix c.hK c.u1 (w_var 7) (w_mod (w_var 3) w_int)) a_nil))) (w_slice c.hK (w_var 1) (o_some (w_add c (w_var 4) w_int)) o_none))) (s_cons (s_if (t_eq c (w_var 3) w_int) (s_one (s_ret (w_add c (w_slice c.hK (w_var 1) (o_some (w_var 4)) o_none) (w_slice c.hK (w_var 1) o_none (o_some (w_var 4)))))) s_nil) (s_cons (s_if (t_eq c (w_var 3) w_int) (s_one (s_ret (w_add c (w_slice c.hK (w_var 1) o_none (o_some (w_var 4))) (w_slice c.hK (w_var 1) (o_some (w_add c (w_var 4) w_int)) o_none)))) s_nil) (s_cons (s_if (t_eq c (w_var 3) w_int) (s_one (s_ret (w_ix c.hK c.u1 (w_lst (a_cons (w_list c T.z_list (w_var 1)) (a_cons (w_add c (w_var 1) (w_tup (a_cons (w_var 6) a_nil))) a_nil))) (w_def c G__law_draw (by decide) (a_cons (w_var 0) (a_cons w_int a_nil)))))) s_nil) (s_one (s_ret (w_var 8)))))))))))))))
/-! _law_is_basis -/
noncomputable  def b__law_is_basis : SM := (sSeq (sIf (tNotM (tst (eUn (isiD ["tuple"]) (eVar 0)))) (sRet (eC (.bl false))) sNil) (sSeq (sSet (.name 2) (eUn negD (eC (.int 1)))) (sSeq (sFor (itEnum (eVar 0)) (.tup [(.name 3), (.name 4)]) (sSeq (sIf (tOrM (tNotM (tst (eUn (isiD ["tuple"]) (eVar 4)))) (tOrM (tst (eOp (eqD true) (eFn (fn1 lenD) (aCons (eVar 4) aNil)) (eVar 1))) (tNotM (tst (eFn (fn1 allD) (aCons (eLC (itSeq (eVar 4)) (.name 7) (fun _ => pure true) (eCall 1 m__law_integer [] (aCons (eVar 7) aNil)) [7]) aNil)))))) (sRet (eC (.bl false))) sNil) (sSeq (sSet (.name 5) (eLC (itEnum (eVar 4)) (.tup [(.name 6), (.name 7)]) (tst (eOp (eqD true) (eVar 7) (eC (.int 0)))) (eVar 6) [6, 7])) (sSeq (sIf (tOrM (tst (eOp (eqD false) (eVar 5) (eLst aNil))) (tOrM (tst (eOp leD (eOp ixD (eVar 5) (eC (.int 0))) (eVar 2))) (tst (eOp ltD (eOp ixD (eVar 4) (eOp ixD (eVar 5) (eC (.int 0)))) (eC (.int 0)))))) (sRet (eC (.bl false))) sNil) (sSeq (sSet (.name 2) (eOp ixD (eVar 5) (eC (.int 0)))) (sIf (tst (eFn (fn1 anyD) (aCons (eLC (itSeq (eSlice (eVar 0) oNone (oSome (eVar 3)))) (.name 8) (fun _ => pure true) (eNot (eChain leD ltD (eC (.int 0)) (eOp ixD (eVar 8) (eVar 2)) (eOp ixD (eVar 4) (eVar 2)))) [8]) aNil))) (sRet (eC (.bl false))) sNil)))))) (sRet (eC (.bl true))))))
noncomputable def m__law_is_basis : List D → M D := runB 9 b__law_is_basis
theorem sc__law_is_basis : FnScope ["thing", "size", "last", "low", "row", "places", "at", "entry", "high"] ["thing", "size"] (defScope st__law_is_basis) := ⟨rfl, rfl, rfl, by decide +kernel, rfl, by decide +kernel, by decide +kernel⟩
theorem ok__law_is_basis (T : Top K mg) : Pr P w K mg base ⟨K, cl⟩ "_law_is_basis" 2 2 [] m__law_is_basis := by
  have G__law_integer := ok__law_integer (P := P) (w := w) (base := base) (cl := cl) T
  refine pr_mk (k := 1) b__law_is_basis T.d__law_is_basis sc__law_is_basis rfl rfl rfl rfl fun f cdv A outer s H E c hp => ?_
  exact (s_cons (s_if (t_not (t_val (w_isi (T := "tuple") (w_var 0) c.hK T.z_isinstance T.z_tuple boot_tuple))) (s_one (s_ret w_bl)) s_nil) (s_cons (s_set 2 c.nd (w_neg w_int)) (s_cons (s_for hp c.calm (i_enum (w_var 0) c.hK T.z_enumerate) (g_tup c.hK c.calm (gs_cons (g_name 3 c.nd) (gs_cons (g_name 4 c.nd) gs_nil))) (s_cons (s_if (t_or (t_not (t_val (w_isi (T := "tuple") (w_var 4) c.hK T.z_isinstance T.z_tuple boot_tuple))) (t_or (t_ne c (w_len c T.z_len (w_var 4)) (w_var 1)) (t_or1 (t_not (t_val (w_all c T.z_all (w_lc c (own := [("entry", 7)]) (i_seq c.hK (w_var 4)) (blkOk_by (by kernel_rfl)) (fun _ _ _ _ _ => (g_name 7 (c.blk _ _ _ _ _).nd)) (fun _ _ _ _ _ => ts_nil) (fun _ _ _ _ _ => (w_def (c.blk _ _ _ _ _) G__law_integer (by decide) (a_cons (w_var 7) a_nil)))))))))).pt (s_one (s_ret w_bl)) s_nil) (s_cons (s_setLC c 5 (own := [("at", 6), ("entry", 7)]) (i_enum (w_var 4) c.hK T.z_enumerate) (blkOk_by (by kernel_rfl)) (fun _ _ _ _ _ => (g_tup (c.blk _ _ _ _ _).hK (c.blk _ _ _ _ _).calm (gs_cons (g_name 6 (c.blk _ _ _ _ _).nd) (gs_cons (g_name 7 (c.blk _ _ _ _ _).nd) gs_nil)))) (fun _ _ _ _ _ => (ts_one (t_ne (c.blk _ _ _ _ _) (w_var 7) w_int))) (fun _ _ _ _ _ => (w_var 6)) (sw_true rfl rfl rfl (by decide +kernel))) (s_cons (s_if (t_or (t_eq c (w_var 5) (w_lst a_nil)) (t_or (t_le (w_ix c.hK c.u1 (w_var 5) w_int) (w_var 2)) (t_or1 (t_lt (w_ix c.hK c.u1 (w_var 4) (w_ix c.hK c.u1 (w_var 5) w_int)) w_int)))).pt (s_one (s_ret w_bl)) s_nil) (s_cons (s_set 2 c.nd (w_ix c.hK c.u1 (w_var 5) w_int)) (s_one (s_if (t_val (w_any c T.z_any (w_lc c (own := [("high", 8)]) (i_seq c.hK (w_slice c.hK (w_var 0) o_none (o_some (w_var 3)))) (blkOk_by (by kernel_rfl)) (fun _ _ _ _ _ => (g_name 8 (c.blk _ _ _ _ _).nd)) (fun _ _ _ _ _ => ts_nil) (fun _ _ _ _ _ => (w_not (w_chLeLt w_int (w_ix (c.blk _ _ _ _ _).hK (c.blk _ _ _ _ _).u1 (w_var 8) (w_var 2)) (w_ix (c.blk _ _ _ _ _).hK (c.blk _ _ _ _ _).u1 (w_var 4) (w_var 2)))))))) (s_one (s_ret w_bl)) s_nil))))))) (s_one (s_ret w_bl)))))
/-! law -/
noncomputable  def b_law : SM := (sSeq (sSet (.name 1) (eNew (aCons (eFn (fn1 listN) (aCons (eVar 0) aNil)) (aCons (eC (.int 0)) (aCons (eC (.int 0)) (aCons (eC (.int 0)) aNil)))))) (sSeq (sSet (.name 2) (eOp addD (eC (.int 1)) (eCall 2 m__law_draw [] (aCons (eVar 1) (aCons (eOp ixD (eLst (aCons (eC (.int 4)) (aCons (eC (.int 12)) aNil))) (eCall 2 m__law_draw [] (aCons (eVar 1) (aCons (eC (.int 2)) aNil)))) aNil))))) (sSeq (sSet (.name 3) (eCall 2 m__law_basis [] (aCons (eVar 1) (aCons (eVar 2) aNil)))) (sSeq (sFor (itR1 (eC (.int 6))) (.name 4) (sSeq (sSet (.name 5) (eCall 3 m__law_changed [] (aCons (eVar 1) (aCons (eVar 3) (aCons (eVar 2) aNil))))) (sSeq (sSet (.name 6) (eCall 2 m_is_basis [] (aCons (eVar 5) (aCons (eVar 2) aNil)))) (sIf (tOrM (tNotM (tst (eUn (isiD ["bool"]) (eVar 6)))) (tst (eOp (eqD true) (eVar 6) (eCall 2 m__law_is_basis [] (aCons (eVar 5) (aCons (eVar 2) aNil)))))) (sRet (eC (.bl false))) sNil)))) (sRet (eAnd (eOp (isD false) (eCall 2 m_is_basis [] (aCons (eTup aNil) (aCons (eVar 2) aNil))) (eC (.bl true))) (eOp (isD false) (eCall 2 m_is_basis [] (aCons (eVar 3) (aCons (eVar 2) aNil))) (eC (.bl true)))))))))
noncomputable def m_law : List D → M D := runB 7 b_law
theorem sc_law : FnScope ["script", "stream", "size", "basis", "k", "thing", "found"] ["script"] (defScope st_law) := ⟨rfl, rfl, rfl, by decide +kernel, rfl, by decide +kernel, by decide +kernel⟩
theorem okL_law (T : Top K mg) {f : Addr} {fd : FuncData} (F : Fun K "law" "law" st_law f fd) : FnOk P w K mg base (L2.CX P w) 4 f fd ["script"] (spM ⟨K, cl⟩ 1 m_law) := by
  have G__law_draw := ok__law_draw (P := P) (w := w) (base := base) (cl := cl) T
  have G__law_basis := ok__law_basis (P := P) (w := w) (base := base) (cl := cl) T
  have G__law_changed := ok__law_changed (P := P) (w := w) (base := base) (cl := cl) T
  have G_is_basis := ok_is_basis (P := P) (w := w) (base := base) (cl := cl) T
  have G__law_is_basis := ok__law_is_basis (P := P) (w := w) (base := base) (cl := cl) T
  exact fn_mir ⟨K, cl⟩ rfl F sc_law fun cdv A outer s H E c hp => (s_cons (s_set 1 c.nd (w_new (a_cons (w_listN c T.z_list (w_var 0)) (a_cons w_int (a_cons w_int (a_cons w_int a_nil)))))) (s_cons (s_set 2 c.nd (w_add c w_int (w_def c G__law_draw (by decide) (a_cons (w_var 1) (a_cons (w_ix c.hK c.u1 (w_lst (a_cons w_int (a_cons w_int a_nil))) (w_def c G__law_draw (by decide) (a_cons (w_var 1) (a_cons w_int a_nil)))) a_nil))))) (s_cons (s_set 3 c.nd (w_def c G__law_basis (by decide) (a_cons (w_var 1) (a_cons (w_var 2) a_nil)))) (s_cons (s_for hp c.calm (i_rng1 w_int T.z_range) (g_name 4 c.nd) (s_cons (s_set 5 c.nd (w_def c G__law_changed (by decide) (a_cons (w_var 1) (a_cons (w_var 3) (a_cons (w_var 2) a_nil))))) (s_cons (s_set 6 c.nd (w_def c G_is_basis (by decide) (a_cons (w_var 5) (a_cons (w_var 2) a_nil)))) (s_one (s_if (t_or (t_not (t_val (w_isi (T := "bool") (w_var 6) c.hK T.z_isinstance T.z_bool boot_bool))) (t_or1 (t_ne c (w_var 6) (w_def c G__law_is_basis (by decide) (a_cons (w_var 5) (a_cons (w_var 2) a_nil)))))).pt (s_one (s_ret w_bl)) s_nil))))) (s_one (s_ret (w_and (w_is (w_def c G_is_basis (by decide) (a_cons (w_tup a_nil) (a_cons (w_var 2) a_nil))) w_bl) (w_one (w_is (w_def c G_is_basis (by decide) (a_cons (w_var 3) (a_cons (w_var 2) a_nil))) w_bl)))))))))
end
end Lk05

namespace Lk05
open PySem PySem.Spec PyProof.Rows L2 Mir

local macro_rules | `(tactic| walk_at "wp") => `(tactic| repeat (first
  | with_reducible refine ws_seq ?_
  | with_reducible refine ws_set ?_
  | with_reducible refine ws_ret ?_
  | with_reducible refine ws_if ?_
  | with_reducible refine ws_setI ?_
  | with_reducible refine ws_expr ?_
  | with_reducible refine ws_nil ?_
  | with_reducible refine wp_var (by with_unfolding_all rfl) ?_
  | with_reducible refine wp_c ?_
  | with_reducible refine wp_op ?_
  | with_reducible refine wp_un ?_
  | with_reducible refine wp_and ?_
  | with_reducible refine wp_or ?_
  | with_reducible refine wp_not ?_
  | with_reducible refine wp_tst ?_
  | with_reducible refine wp_tand ?_
  | with_reducible refine wp_tor ?_
  | with_reducible refine wp_tnot ?_
  | with_reducible refine wp_chain ?_
  | with_reducible refine wp_ife ?_
  | with_reducible refine wa_nil ?_
  | with_reducible refine wa_cons ?_
  | with_reducible refine wp_lst ?_
  | with_reducible refine wp_tup ?_
  | with_reducible refine wp_new ?_
  | with_reducible refine wp_fn ?_
  | with_reducible refine wp_fn1 ?_
  | with_reducible refine wp_call ?_
  | with_reducible refine wp_lm ?_
  | with_reducible refine wp_slice ?_
  | with_reducible refine wo_none ?_
  | with_reducible refine wo_some ?_
  | with_reducible refine wi_seq ?_
  | with_reducible refine wi_enum ?_
  | with_reducible refine wi_rng1 ?_
  | with_reducible refine wi_rng2 ?_
  | with_reducible refine wp_addI ?_
  | with_reducible refine wp_subI ?_
  | with_reducible refine wp_negI ?_
  | with_reducible refine wp_gtI ?_
  | with_reducible refine wp_ltI ?_
  | with_reducible refine wp_geI ?_
  | with_reducible refine wp_leI ?_
  | with_reducible refine wp_eqF ?_
  | with_reducible refine wp_neF ?_
  | with_reducible refine ex_bl ?_
  | (with_reducible refine if_tt ?_)
  | (with_reducible refine if_ff ?_)))


theorem is_integer_ok {d : D} {st : Sto} {Q : D → Sto → Prop} (h : puD d = true) (q : Q (.bl (isI d)) st) : Wp (m_is_integer [d]) st Q := by
  refine ws_run ?_
  show Ws b_is_integer [some d] st _ _ _ _
  unfold b_is_integer
  walk_at "wp"
  refine wp_isInt h ?_
  walk_at "wp"
  cases d with
  | int i => exact if_tt (wp_not (wp_un (wp_var rfl (wp_isBool rfl ⟨_, rfl, q⟩))))
  | bl b => exact if_tt (wp_not (wp_un (wp_var rfl (wp_isBool rfl ⟨_, rfl, q⟩))))
  | _ => exact if_ff q
theorem is_form_ok {d : D} {n : Int} {st : Sto} {Q : D → Sto → Prop} (h : puD d = true) (hn : n ≤ 1000000) (q : ∀ st', Kp [] st st' → Q (.bl (isF n d)) st') : Wp (m_is_form [d, .int n]) st Q := by
  refine ws_run ?_
  show Ws b_is_form [some d, some (.int n), none] st _ _ _ _
  unfold b_is_form
  walk_at "wp"
  refine wp_isT h ?_
  walk_at "wp"
  cases d with
  | tup xs =>
    refine if_tt ?_
    walk_at "wp"
    refine wp_len (xs := xs) rfl ?_
    walk_at "wp"
    refine if_bl (fun e => ?_) fun e => ?_
    · walk_at "wp"
      refine wl_map (fun x => .bl (isI x)) ?_
      walk_at "wp"
      refine ⟨xs, rfl, show xs.length ≤ 1000000 by omega, fun _ _ => rfl, fun d hd st2 k => ⟨_, rfl, ?_⟩, fun st' k g => ?_⟩
      · walk_at "wp"
        refine ⟨rfl, is_integer_ok (puDs_iff.mp (by simpa [puD] using h) d hd) ⟨rfl, Kp.refl _ _⟩⟩
      · walk_at "wp"
        refine wp_allF isI (ys := xs) (by simp only [lstOf, g]) ?_
        have : isF n (.tup xs) = xs.all isI := by
          simp only [isF, e, decide_true, Bool.true_and]
        rw [← this]
        exact q _ k
    · have : isF n (.tup xs) = false := by simp only [isF, e, decide_false, Bool.false_and]
      rw [← this]
      exact q _ (Kp.refl _ _)
  | _ => exact if_ff (q _ (Kp.refl _ _))
theorem pivot_of_ok {xs : List Int} {st : Sto} {Q : D → Sto → Prop} (q : Q (pvD xs) st) : Wp (m_pivot_of [rowD xs]) st Q := by
  refine ws_run ?_
  show Ws b_pivot_of [some (rowD xs), none, none] st _ _ _ _
  unfold b_pivot_of
  refine ws_seq (ws_for (enumL (xs.map .int), fun st' => seqOf st' (rowD xs) = some (xs.map .int)) (fun i env s => ∃ u v, env = [some (rowD xs), u, v] ∧ s = st ∧ ∀ j < i, xs.getD j 0 = 0) ?_ ?_ ?_ ?_)
  · walk_at "wp"
    exact ⟨_, rfl, rfl, _, _, rfl, rfl, fun j h => absurd h (Nat.not_lt_zero _)⟩
  · rintro i env s ⟨u, v, rfl, rfl, _⟩
    rfl
  · rintro i d env s hd ⟨u, v, rfl, rfl, hz⟩
    obtain ⟨x, hx, rfl⟩ := enumL_get hd
    rw [List.getElem?_map] at hx
    cases e : xs[i]? with
    | none => rw [e] at hx; cases hx
    | some y =>
      rw [e] at hx
      cases hx
      have hi := (List.getElem?_eq_some_iff.mp e).1
      have hy : xs.getD i 0 = y := by rw [List.getD_eq_getElem?_getD, e]; rfl
      refine ⟨_, rfl, ?_⟩
      walk_at "wp"
      refine if_bl (fun h0 => ?_) fun h0 => ?_
      · walk_at "wp"
        have : pvD xs = .int (i : Nat) := by
          have := pv_eq hi (by rw [hy]; exact h0) hz
          simp only [pvD, this, hi, if_true]
        rw [← this]
        exact q
      · walk_at "wp"
        refine ⟨_, _, rfl, rfl, fun j hj => ?_⟩
        by_cases hji : j = i
        · subst hji
          rw [hy]
          exact Decidable.not_not.mp h0
        · exact hz j (by omega)
  · rintro env s ⟨u, v, rfl, rfl, hz⟩
    walk_at "wp"
    have hz' : ∀ j < xs.length, xs.getD j 0 = 0 := fun j hj => hz j (by rw [enumL_len, List.length_map]; exact hj)
    have : pvD xs = .non := by simp only [pvD, pv_none hz', if_false]
    rw [← this]
    exact q
/-- the result None: a row without pivot -/
theorem inV_non {rs : List (List Int)} : inV (tv .non) ((rs.map pvD).map tv) = decide (∃ r ∈ rs, ¬ pv r < r.length) := by
  unfold inV
  rw [List.any_map, List.any_map]
  by_cases h : ∃ r ∈ rs, ¬ pv r < r.length
  · rw [decide_eq_true h]
    obtain ⟨r, hr, hp⟩ := h
    refine List.any_eq_true.mpr ⟨r, hr, ?_⟩
    simp only [Function.comp, pvD, hp, if_false]
    rfl
  · rw [decide_eq_false h]
    refine List.any_eq_false.mpr fun r hr => ?_
    have hp : pv r < r.length := Decidable.byContradiction fun z => h ⟨r, hr, z⟩
    simp only [Function.comp, pvD, hp, if_true]
    simp [tv, eqV]
theorem is_basis_ok {d : D} {n : Nat} {st : Sto} {Q : D → Sto → Prop} (h : puD d = true) (hn : n ≤ 1000) (hz : ∀ ds, d = .tup ds → ds.length ≤ 4000) (q : ∀ st', Kp [] st st' → Q (.bl (bas n d)) st') : Wp (m_is_basis [d, .int n]) st Q := by
  refine ws_run ?_
  show Ws b_is_basis [some d, some (.int n), none, none, none, none, none] st _ _ _ _
  unfold b_is_basis
  walk_at "wp"
  refine wp_isT h ?_
  walk_at "wp"
  cases d with
  | tup ds =>
    have hds := hz ds rfl
    refine if_ff ?_
    walk_at "wp"
    refine wl_map (fun x => .bl (isF n x)) ?_
    walk_at "wp"
    refine ⟨ds, rfl, show ds.length ≤ 1000000 by omega, fun _ _ => rfl, fun d hd st2 k => ⟨_, rfl, ?_⟩, fun st1 k1 g => ?_⟩
    · walk_at "wp"
      exact ⟨rfl, is_form_ok (puDs_iff.mp (by simpa [puD] using h) d hd) (by omega) fun st' k => ⟨rfl, k⟩⟩
    walk_at "wp"
    refine wp_allF (isF n) (ys := ds) (by simp only [lstOf, g]) ?_
    walk_at "wp"
    cases ha : ds.all (isF n) with
    | false =>
      refine if_tt ?_
      walk_at "wp"
      have : bas n (.tup ds) = false := bas_false fun rs e b => by
        have : ds.all (isF n) = true := by
          simp only [matD, D.tup.injEq] at e
          rw [List.all_eq_true]
          intro x hx
          rw [e] at hx
          obtain ⟨r, hr, rfl⟩ := List.mem_map.mp hx
          exact row_isF (by rw [b.len r hr])
        rw [ha] at this
        cases this
      rw [← this]
      exact q _ k1
    | true =>
      refine if_ff ?_
      obtain ⟨rs, rfl, hl⟩ := rows_of (n := n) (ds := ds) fun x hx => by
        rw [List.all_eq_true] at ha
        exact ha x hx
      have hl : ∀ r ∈ rs, r.length = n := fun r hr => by have := hl r hr; omega
      rw [List.length_map] at hds
      show Ws sNil _ _ _ _ _ _
      walk_at "wp"
      refine wl_map pvF ?_
      walk_at "wp"
      refine ⟨rs.map rowD, rfl, by simpa using Nat.le_trans hds (by decide), fun _ _ => rfl, fun d hd st2 k => ⟨_, rfl, ?_⟩, fun st2 k2 g2 => ?_⟩
      · obtain ⟨r, hr, rfl⟩ := List.mem_map.mp hd
        walk_at "wp"
        exact ⟨rfl, pivot_of_ok ⟨(pvF_row r).symm, Kp.refl _ _⟩⟩
      replace g2 : st2[st1.length]? = some (.lst (rs.map pvD)) := by
        rw [g2, List.map_map]
        have : pvF ∘ rowD = pvD := funext pvF_row
        rw [this]
      have k2 := k1.trans k2
      generalize st1.length = p at g2 ⊢
      walk_at "wp"
      refine wp_inF (xs := rs.map pvD) (by simp only [seqOf, lstOf, g2]) (pvD_flat rs) ?_
      rw [inV_non]
      walk_at "wp"
      refine if_bl (fun hp => ?_) fun hp => ?_
      · walk_at "wp"
        have : bas n (matD rs) = false := bas_mat fun b => by
          obtain ⟨r, hr, hp⟩ := hp
          rw [hl r hr] at hp
          exact hp (b.piv r hr)
        refine (congrArg (fun b => Q (.bl b) _) this).mp (q _ k2)
      have hp : ∀ r ∈ rs, pv r < n := fun r hr => Decidable.byContradiction fun z => hp ⟨r, hr, by rw [hl r hr]; exact z⟩
      have g3 : st2[p]? = some (.lst ((rs.map fun r => (pv r : Int)).map .int)) := by
        rw [g2, List.map_map]
        refine congrArg (fun z => some (O.lst z)) (List.map_congr_left fun r hr => ?_)
        simp only [pvD, hl r hr, hp r hr, if_true, Function.comp]
      clear g2
      walk_at "wp"
      refine wp_sorted (bs := rs.map fun r => (Mir.pv r : Int)) (by simp only [lstOf, g3]) (asInts_ints _) ?_
      refine wp_neInts (xs := rs.map fun r => (Mir.pv r : Int)) (by simp only [lstOf, g3]) rfl ?_
      walk_at "wp"
      by_cases hs : (rs.map fun r => (pv r : Int)) = sortI (rs.map fun r => (pv r : Int))
      rotate_left
      · rw [decide_eq_false hs]
        refine if_tt ?_
        walk_at "wp"
        have : bas n (matD rs) = false := bas_mat fun b => hs (sortI_self (by
          rw [List.pairwise_map]
          have := b.asc
          rw [List.pairwise_map] at this
          exact this.imp fun h => by omega)).symm
        refine (congrArg (fun b => Q (.bl b) _) this).mp (q _ k2)
      rw [decide_eq_true hs]
      refine if_ff ?_
      walk_at "wp"
      refine wp_lenSet (bs := rs.map fun r => (Mir.pv r : Int)) (by simp only [lstOf, g3]) (asInts_ints _) (by simpa using hds) ?_
      walk_at "wp"
      refine wp_len (xs := (rs.map fun r => (Mir.pv r : Int)).map .int) (by simp only [seqOf, lstOf, g3]) ?_
      walk_at "wp"
      refine if_bl (fun hd => ?_) fun hd => ?_
      · walk_at "wp"
        have : bas n (matD rs) = false := bas_mat fun b => hd (by
          have : (rs.map fun r => (pv r : Int)).Nodup := by
            have := b.asc
            rw [List.pairwise_map] at this
            exact (List.pairwise_map.mpr (this.imp fun h => by omega))
          rw [difI_nodup this, List.length_map, List.length_map, List.length_map])
        refine (congrArg (fun b => Q (.bl b) _) this).mp (q _ k2)
      have hd := Decidable.not_not.mp hd
      have nd : (rs.map fun r => (pv r : Int)).Nodup := difI_len.mp (by
        rw [List.length_map] at hd
        omega)
      have asc : (rs.map pv).Pairwise (· < ·) := by
        have h1 := sortI_eq.mp hs.symm
        rw [List.pairwise_map] at h1 ⊢
        have h2 := List.pairwise_map.mp nd
        exact (h1.and h2).imp fun h => by omega
      walk_at "wp"
      refine ws_for (enumL ((rs.map fun r => (pv r : Int)).map .int), fun st' => seqOf st' (.obj p) = some ((rs.map fun r => (pv r : Int)).map .int))
        (fun i env s => ∃ u v w x, env = [some (matD rs), some (.int n), some (.obj p), u, v, w, x] ∧ Kp [] st2 s ∧ ∀ j < i, 0 ≤ ent rs j (pv (rs.getD j [])) ∧ ∀ k < j, 0 ≤ ent rs k (pv (rs.getD j [])) ∧ ent rs k (pv (rs.getD j [])) < ent rs j (pv (rs.getD j []))) ?_ ?_ ?_ ?_
      · walk_at "wp"
        exact ⟨_, by simp only [seqOf, lstOf, g3], rfl, _, _, _, _, rfl, Kp.refl _ _, fun j h => absurd h (Nat.not_lt_zero _)⟩
      · rintro i env s ⟨u, v, w, x, rfl, k3, _⟩
        simp only [seqOf, lstOf, k3.at' _ _ (by simp) g3]
      · rintro i d env s hd' ⟨u, v, w, x, rfl, k3, hJ⟩
        obtain ⟨y, hy, rfl⟩ := enumL_get hd'
        rw [List.map_map, List.getElem?_map] at hy
        cases e : rs[i]? with
        | none => rw [e] at hy; cases hy
        | some r =>
          rw [e] at hy
          cases hy
          have hi := (List.getElem?_eq_some_iff.mp e).1
          have hr : rs.getD i [] = r := by rw [List.getD_eq_getElem?_getD, e]; rfl
          have hm : r ∈ rs := List.mem_of_getElem? e
          have hpr := hp r hm
          have hlr := hl r hm
          refine ⟨_, rfl, ?_⟩
          walk_at "wp"
          refine wp_ixM hi ?_
          rw [hr]
          walk_at "wp"
          refine wp_ixR (by omega) ?_
          have he : ent rs i (pv (rs.getD i [])) = r.getD (pv r) 0 := by rw [hr]; unfold ent; rw [hr]
          walk_at "wp"
          refine if_bl (fun hneg => ?_) fun hneg => ?_
          · walk_at "wp"
            have : bas n (matD rs) = false := bas_mat fun b => by
              have := b.pos i hi
              rw [he] at this
              omega
            refine (congrArg (fun b => Q (.bl b) _) this).mp (q _ (k2.trans k3))
          walk_at "wp"
          refine wl_map (fun d => .bl (redF (pv r) (r.getD (pv r) 0) d)) ?_
          walk_at "wp"
          refine ⟨_, rfl, wp_slicePre ?_⟩
          rw [← List.map_take]
          refine ⟨_, rfl, ?_, fun _ _ => rfl, fun d hd st4 k4 => ⟨_, rfl, ?_⟩, fun st5 k5 g5 => ?_⟩
          · show ((rs.take i).map rowD).length ≤ 1000000
            rw [List.length_map, List.length_take]
            omega
          · obtain ⟨o, ho, rfl⟩ := List.mem_map.mp hd
            have hlo := hl o (List.mem_of_mem_take ho)
            walk_at "wp"
            refine wp_ixR (by omega) ?_
            walk_at "wp"
            rw [redF_row]
            by_cases h0 : 0 ≤ o.getD (pv r) 0
            · rw [decide_eq_true h0]
              refine if_tt ?_
              walk_at "wp"
              simp only [h0, true_and]
              exact Kp.refl _ _
            · rw [decide_eq_false h0]
              refine if_ff ?_
              simp only [h0, false_and, decide_false, true_and]
              exact Kp.refl _ _
          walk_at "wp"
          refine wp_allF (redF (pv r) (r.getD (pv r) 0)) (ys := (rs.take i).map rowD) (by simp only [lstOf, g5]) ?_
          walk_at "wp"
          have hent : ∀ k, k < i → ∃ o, o ∈ rs.take i ∧ ent rs k (pv (rs.getD i [])) = o.getD (pv r) 0 := fun k hk => by
            have hk' : k < rs.length := by omega
            refine ⟨rs[k], ?_, ?_⟩
            · rw [List.mem_take_iff_getElem]
              exact ⟨k, by omega, rfl⟩
            · unfold ent
              rw [hr, List.getD_eq_getElem?_getD (l := rs), List.getElem?_eq_getElem hk']
              rfl
          cases ha2 : ((rs.take i).map rowD).all (redF (pv r) (r.getD (pv r) 0)) with
          | false =>
            refine if_tt ?_
            walk_at "wp"
            have : bas n (matD rs) = false := bas_mat fun b => by
              have : ((rs.take i).map rowD).all (redF (pv r) (r.getD (pv r) 0)) = true := by
                rw [List.all_eq_true]
                intro x hx
                obtain ⟨o, ho, rfl⟩ := List.mem_map.mp hx
                rw [redF_row]
                obtain ⟨k, hk, rfl⟩ := List.mem_take_iff_getElem.mp ho
                have := b.red i hi k (by omega)
                rw [he] at this
                have e2 : ent rs k (pv (rs.getD i [])) = (rs[k]'(by omega)).getD (pv r) 0 := by
                  unfold ent
                  rw [hr, List.getD_eq_getElem?_getD (l := rs), List.getElem?_eq_getElem (by omega)]
                  rfl
                rw [e2] at this
                exact decide_eq_true this
              rw [ha2] at this
              cases this
            refine (congrArg (fun b => Q (.bl b) _) this).mp (q _ ((k2.trans k3).trans k5))
          | true =>
            refine if_ff ?_
            show Ws sNil _ _ _ _ _ _
            walk_at "wp"
            refine ⟨_, _, _, _, rfl, k3.trans k5, fun j hj => ?_⟩
            by_cases hji : j = i
            · subst hji
              refine ⟨by rw [he]; omega, fun k hk => ?_⟩
              obtain ⟨o, ho, e2⟩ := hent k hk
              rw [e2, he]
              rw [List.all_eq_true] at ha2
              have := ha2 _ (List.mem_map.mpr ⟨o, ho, rfl⟩)
              rw [redF_row] at this
              exact of_decide_eq_true this
            · exact hJ j (by omega)
      · rintro env s ⟨u, v, w, x, rfl, k3, hJ⟩
        replace hJ : ∀ j < rs.length, _ := fun j hj => hJ j (by rw [enumL_len, List.length_map, List.length_map]; exact hj)
        walk_at "wp"
        have : bas n (matD rs) = true := bas_true ⟨hl, hp, asc, fun i hi => (hJ i hi).1, fun i hi j hj => (hJ i hi).2 j hj⟩
        refine (congrArg (fun b => Q (.bl b) _) this).mp (q _ (k2.trans k3))
  | _ =>
    refine if_tt ?_
    walk_at "wp"
    exact (congrArg (fun b => Q (.bl b) st) (bas_notT rfl)).mp (q _ (Kp.refl _ _))

theorem law_is_basis_ok {d : D} {n : Nat} {st : Sto} {Q : D → Sto → Prop} (h : puD d = true) (hn : n ≤ 1000) (hz : ∀ ds, d = .tup ds → ds.length ≤ 4000) (q : ∀ st', Kp [] st st' → Q (.bl (bas n d)) st') : Wp (m__law_is_basis [d, .int n]) st Q := by
  refine ws_run ?_
  show Ws b__law_is_basis [some d, some (.int n), none, none, none, none, none, none, none] st _ _ _ _
  unfold b__law_is_basis
  walk_at "wp"
  refine wp_isT h ?_
  walk_at "wp"
  cases d with
  | tup ds =>
    have hds := hz ds rfl
    refine if_ff ?_
    walk_at "wp"
    refine ws_for (enumL ds, fun st' => seqOf st' (.tup ds) = some ds)
      (fun i env s => ∃ (last : Int) (u v w x y z : Option D) (rs : List (List Int)), env = [some (.tup ds), some (.int n), some (.int last), u, v, w, x, y, z] ∧ Kp [] st s ∧ ds.take i = rs.map rowD ∧ IsB n rs ∧ -1 ≤ last ∧ (∀ r ∈ rs, (Mir.pv r : Int) ≤ last) ∧ ∀ c : Nat, (∀ r ∈ rs, Mir.pv r < c) → last < c) ?_ ?_ ?_ ?_
    · walk_at "wp"
      exact ⟨_, rfl, rfl, -1, _, _, _, _, _, _, [], rfl, Kp.refl _ _, rfl, IsB.nil n, by decide, by simp, fun c _ => by omega⟩
    · rintro i env s ⟨last, u, v, w, x, y, z, rs, rfl, k, _⟩
      rfl
    · rintro i d env s hd ⟨last, u, v, w, x, y, z, rs, rfl, k, hpre, hB, hl1, hlast, hlt⟩
      obtain ⟨r, hr, rfl⟩ := enumL_get hd
      have hi := (List.getElem?_eq_some_iff.mp hr).1
      have htake : ds.take (i + 1) = rs.map rowD ++ [r] := by rw [List.take_add_one, hr, hpre]; rfl
      have hlen : rs.length = i := by
        have := congrArg List.length hpre
        rw [List.length_take, List.length_map] at this
        omega
      have hpu : puD r = true := puDs_iff.mp (by simpa [puD] using h) r (List.mem_of_getElem? hr)
      /- what a whole basis would say of this row -/
      have key : (∃ rs', D.tup ds = matD rs' ∧ IsB n rs') → ∃ xs, r = rowD xs ∧ IsB n (rs ++ [xs]) := by
        rintro ⟨rs', e, b⟩
        simp only [matD, D.tup.injEq] at e
        subst e
        rw [← List.map_take] at hpre htake
        have e1 := rows_inj hpre
        rw [List.getElem?_map] at hr
        cases e2 : rs'[i]? with
        | none => rw [e2] at hr; cases hr
        | some xs =>
          rw [e2] at hr
          refine ⟨xs, (Option.some.inj hr).symm, ?_⟩
          have := b.take (i + 1)
          rw [List.take_add_one, e2, e1] at this
          exact this
      have no : ∀ s', Kp [] s s' → ¬ (∃ xs, r = rowD xs ∧ IsB n (rs ++ [xs])) → Q (.bl false) s' := fun s' k' hno => by
        have : bas n (.tup ds) = false := bas_false fun rs' e b => hno (key ⟨rs', e, b⟩)
        rw [← this]
        exact q _ (k.trans k')
      refine ⟨_, rfl, ?_⟩
      walk_at "wp"
      refine wp_isT hpu ?_
      walk_at "wp"
      cases r with
      | tup es =>
        refine if_ff ?_
        walk_at "wp"
        refine wp_len (xs := es) rfl ?_
        walk_at "wp"
        refine if_bl (fun hl => ?_) fun hl => ?_
        · walk_at "wp"
          exact no _ (Kp.refl _ _) fun ⟨xs, e, b⟩ => hl (by
            have := (IsB_snoc.mp b).2.1
            simp only [rowD, D.tup.injEq] at e
            rw [e, List.length_map, this])
        have hl := Decidable.not_not.mp hl
        walk_at "wp"
        refine wl_map (fun x => .bl (isI x)) ?_
        walk_at "wp"
        refine ⟨es, rfl, show es.length ≤ 1000000 by omega, fun _ _ => rfl, fun d hd st2 k => ⟨_, rfl, ?_⟩, fun s1 k1 g => ?_⟩
        · walk_at "wp"
          exact ⟨rfl, is_integer_ok (puDs_iff.mp (by simpa [puD] using hpu) d hd) ⟨rfl, Kp.refl _ _⟩⟩
        walk_at "wp"
        refine wp_allF isI (ys := es) (by simp only [lstOf, g]) ?_
        walk_at "wp"
        cases ha : es.all isI with
        | false =>
          refine if_tt ?_
          walk_at "wp"
          exact no _ k1 fun ⟨xs, e, b⟩ => by
            simp only [rowD, D.tup.injEq] at e
            rw [e, isI_all] at ha
            cases ha
        | true =>
          refine if_ff ?_
          show Ws sNil _ _ _ _ _ _
          obtain ⟨xs, rfl⟩ := all_isI ha
          rw [List.length_map] at hl
          have hl : xs.length = n := by omega
          have no : ∀ s', Kp [] s s' → ¬ IsB n (rs ++ [xs]) → Q (.bl false) s' := fun s' k' hno => no s' k' fun ⟨ys, e, b⟩ => by
            have : xs = ys := rowD_inj e
            subst this
            exact hno b
          walk_at "wp"
          refine wl_filter neF fstF ?_
          walk_at "wp"
          refine ⟨xs.map .int, rfl, ?_, fun _ _ => rfl, fun d hd st2 k => ?_, fun s2 k2 g2 => ?_⟩
          · show (enumL (xs.map .int)).length ≤ 1000000
            rw [enumL_len, List.length_map]
            omega
          · rw [show (enumL (xs.map .int), fun st' => seqOf st' (rowD xs) = some (xs.map .int)).1 = enumL (xs.map .int) from rfl, enumL_ints] at hd
            obtain ⟨j, hj, rfl⟩ := List.mem_map.mp hd
            refine ⟨_, rfl, ?_⟩
            walk_at "wp"
            refine ⟨?_, Kp.refl _ _, fun _ => ?_⟩
            · exact dec_ne _
            · walk_at "wp"
              exact ⟨rfl, Kp.refl _ _⟩
          replace g2 : s2[s1.length]? = some (.lst (((plc xs).map fun i : Nat => (i : Int)).map .int)) := by rw [← plc_D]; exact g2
          generalize s1.length = p at g2 ⊢
          have k2 := k1.trans k2
          walk_at "wp"
          refine ⟨by decide, ?_⟩
          refine wp_eqInts (xs := (plc xs).map fun i : Nat => (i : Int)) (ys := []) (by simp only [lstOf, g2]) rfl ?_
          walk_at "wp"
          refine if_bl (fun he => ?_) fun he => ?_
          · walk_at "wp"
            refine no _ k2 fun b => ?_
            have := plc_some (xs := xs) (by rw [hl]; exact (IsB_snoc.mp b).2.2.1)
            rw [List.map_eq_nil_iff.mp he] at this
            cases this
          have hp : Mir.pv xs < xs.length := Decidable.byContradiction fun z => he (by rw [plc_none z]; rfl)
          have h0 : (((plc xs).map fun i : Nat => (i : Int)).map D.int)[0]? = some (.int (Mir.pv xs)) := by
            rw [List.getElem?_map, List.getElem?_map, plc_some hp]
            rfl
          have a0 : atI (((plc xs).map fun i : Nat => (i : Int)).map D.int) 0 = some (.int (Mir.pv xs)) := atI_at (j := 0) h0
          walk_at "wp"
          refine wp_ixL (by simp only [seqOf, lstOf, g2]) a0 ?_
          walk_at "wp"
          refine if_bl (fun hle => ?_) fun hle => ?_
          · walk_at "wp"
            refine no _ k2 fun b => ?_
            have := hlt (Mir.pv xs) fun r hr => (IsB_snoc.mp b).2.2.2.1 r hr
            omega
          walk_at "wp"
          refine wp_ixL (by simp only [seqOf, lstOf, g2]) a0 ?_
          refine wp_ixR (xs := xs) hp ?_
          walk_at "wp"
          refine if_bl (fun hneg => ?_) fun hneg => ?_
          · walk_at "wp"
            refine no _ k2 fun b => ?_
            have := (IsB_snoc.mp b).2.2.2.2.1
            omega
          walk_at "wp"
          refine wp_ixL (by simp only [seqOf, lstOf, g2]) a0 ?_
          walk_at "wp"
          refine wl_map (fun d => .bl (!redF (Mir.pv xs) (xs.getD (Mir.pv xs) 0) d)) ?_
          walk_at "wp"
          refine ⟨_, rfl, wp_slicePre ?_⟩
          rw [hpre]
          refine ⟨_, rfl, ?_, fun _ _ => rfl, fun d hd st4 k4 => ⟨_, rfl, ?_⟩, fun s5 k5 g5 => ?_⟩
          · show (rs.map rowD).length ≤ 1000000
            rw [List.length_map]
            omega
          · obtain ⟨o, ho, rfl⟩ := List.mem_map.mp hd
            have hlo := hB.len o ho
            walk_at "wp"
            refine wp_ixR (by omega) ?_
            walk_at "wp"
            rw [redF_row]
            by_cases h0 : 0 ≤ o.getD (Mir.pv xs) 0
            · rw [decide_eq_true h0]
              refine if_tt ?_
              walk_at "wp"
              refine wp_ixR (xs := xs) hp ?_
              walk_at "wp"
              simp only [h0, true_and]
              exact Kp.refl _ _
            · rw [decide_eq_false h0]
              refine if_ff ?_
              walk_at "wp"
              simp only [h0, false_and, decide_false, true_and]
              exact Kp.refl _ _
          walk_at "wp"
          refine wp_anyF (fun d => !redF (Mir.pv xs) (xs.getD (Mir.pv xs) 0) d) (ys := rs.map rowD) (by simp only [lstOf, g5]) ?_
          walk_at "wp"
          cases ha2 : (rs.map rowD).any (fun d => !redF (Mir.pv xs) (xs.getD (Mir.pv xs) 0) d) with
          | true =>
            refine if_tt ?_
            walk_at "wp"
            refine no _ (k2.trans k5) fun b => ?_
            obtain ⟨d, hd, e⟩ := List.any_eq_true.mp ha2
            obtain ⟨o, ho, rfl⟩ := List.mem_map.mp hd
            have := (IsB_snoc.mp b).2.2.2.2.2 o ho
            rw [redF_row, decide_eq_true this] at e
            cases e
          | false =>
            refine if_ff ?_
            walk_at "wp"
            have hlt2 : ∀ q ∈ rs, Mir.pv q < Mir.pv xs := fun q hq => by
              have := hlast q hq
              omega
            refine ⟨_, _, _, _, _, _, _, rs ++ [xs], rfl, k.trans (k2.trans k5), by rw [htake, List.map_append]; rfl, IsB_snoc.mpr ⟨hB, hl, by omega, hlt2, by omega, fun q hq => ?_⟩, by omega, fun q hq => ?_, fun c hc => ?_⟩
            · have := List.any_eq_false.mp ha2 _ (List.mem_map.mpr ⟨q, hq, rfl⟩)
              rw [redF_row] at this
              exact Decidable.byContradiction fun z => this (by rw [decide_eq_false z]; rfl)
            · rcases List.mem_append.mp hq with hq | hq
              · have := hlt2 q hq
                omega
              · rw [List.mem_singleton.mp hq]
                exact Int.le_refl _
            · have := hc xs (by simp)
              omega
      | _ =>
        refine if_tt ?_
        walk_at "wp"
        exact no _ (Kp.refl _ _) fun ⟨xs, e, b⟩ => by cases e
    · rintro env s ⟨last, u, v, w, x, y, z, rs, rfl, k, hpre, hB, _⟩
      walk_at "wp"
      have e : ds = rs.map rowD := by
        rw [← hpre, show (enumL ds, fun st' => seqOf st' (.tup ds) = some ds).1 = enumL ds from rfl, enumL_len, List.take_length]
      have : bas n (.tup ds) = true := by
        rw [e]
        exact bas_true hB
      rw [← this]
      exact q _ k
  | _ =>
    refine if_tt ?_
    walk_at "wp"
    exact (congrArg (fun b => Q (.bl b) st) (bas_notT rfl)).mp (q _ (Kp.refl _ _))
end Lk05

namespace Lk05
open PySem PySem.Spec PyProof.Rows L2 Mir

local macro_rules | `(tactic| walk_at "wp") => `(tactic| repeat (first
  | with_reducible refine ws_seq ?_
  | with_reducible refine ws_set ?_
  | with_reducible refine ws_ret ?_
  | with_reducible refine ws_if ?_
  | with_reducible refine ws_setI ?_
  | with_reducible refine ws_expr ?_
  | with_reducible refine ws_nil ?_
  | with_reducible refine wp_var (by with_unfolding_all rfl) ?_
  | with_reducible refine wp_c ?_
  | with_reducible refine wp_op ?_
  | with_reducible refine wp_un ?_
  | with_reducible refine wp_and ?_
  | with_reducible refine wp_or ?_
  | with_reducible refine wp_not ?_
  | with_reducible refine wp_tst ?_
  | with_reducible refine wp_tand ?_
  | with_reducible refine wp_tor ?_
  | with_reducible refine wp_tnot ?_
  | with_reducible refine wp_chain ?_
  | with_reducible refine wp_ife ?_
  | with_reducible refine wa_nil ?_
  | with_reducible refine wa_cons ?_
  | with_reducible refine wp_lst ?_
  | with_reducible refine wp_tup ?_
  | with_reducible refine wp_new ?_
  | with_reducible refine wp_fn ?_
  | with_reducible refine wp_fn1 ?_
  | with_reducible refine wp_call ?_
  | with_reducible refine wp_lm ?_
  | with_reducible refine wp_slice ?_
  | with_reducible refine wo_none ?_
  | with_reducible refine wo_some ?_
  | with_reducible refine wi_seq ?_
  | with_reducible refine wi_enum ?_
  | with_reducible refine wi_rng1 ?_
  | with_reducible refine wi_rng2 ?_
  | with_reducible refine wi_zip ?_
  | with_reducible refine wp_addI ?_
  | with_reducible refine wp_subI ?_
  | with_reducible refine wp_negI ?_
  | with_reducible refine wp_gtI ?_
  | with_reducible refine wp_ltI ?_
  | with_reducible refine wp_geI ?_
  | with_reducible refine wp_leI ?_
  | with_reducible refine wp_eqF ?_
  | with_reducible refine wp_neF ?_
  | with_reducible refine ex_bl ?_
  | (with_reducible refine if_tt ?_)
  | (with_reducible refine if_ff ?_)))



theorem draw {a b k : Nat} {st : Sto} {n : Int} {Q : D → Sto → Prop} (h : Strm a b k st) (hk : k < 2 ^ 40) (hn : 0 < n) (hl : n.natAbs < 2 ^ 200) (q : ∀ (i : Int) (st' : Sto), 0 ≤ i → i < n → Strm a b (k + 1) st' → Kp [a, b] st st' → Q (.int i) st') : Wp (m__law_draw [.obj a, .int n]) st Q := by
  refine Wp.mono (draw_ok h hk hn (Nat.lt_of_le_of_lt (log2_le (k := 200) (Nat.lt_trans hl (by decide))) (by decide))) ?_
  rintro d st' ⟨i, rfl, h1, h2, h3, h4⟩
  exact q i st' h1 h2 h3 h4
theorem zipL_ints (one other : List Int) : zipL (one.map .int) (other.map .int) = List.zipWith (fun a b => .tup [.int a, .int b]) one other := by
  unfold zipL
  rw [List.zipWith_map]
theorem plus_ok {f : Int} {one other : List Int} {e1 e2 : Nat} {st : Sto} {Q : D → Sto → Prop} (hf : f.natAbs < 2 ^ e1) (ho : ∀ a ∈ one, a.natAbs < 2 ^ e2) (he : e1 + e2 < 1000000) (hl : one.length ≤ 1000000)
    (q : ∀ st', Kp [] st st' → Q (rowD (List.zipWith (fun a b => f * a + b) one other)) st') : Wp (m__law_plus [.int f, rowD one, rowD other]) st Q := by
  refine ws_run ?_
  show Ws b__law_plus [some (.int f), some (rowD one), some (rowD other), none, none] st _ _ _ _
  unfold b__law_plus
  walk_at "wp"
  refine wl_map (fun d => match d with | .tup [.int a, .int b] => .int (f * a + b) | _ => .non) ?_
  walk_at "wp"
  refine ⟨one.map .int, other.map .int, rfl, rfl, ?_, fun _ _ => ⟨rfl, rfl⟩, fun d hd st2 k => ?_, fun st1 k1 g => ?_⟩
  · show (zipL (one.map .int) (other.map .int)).length ≤ 1000000
    rw [zipL_ints, List.length_zipWith]
    omega
  · replace hd : d ∈ zipL (one.map .int) (other.map .int) := hd
    rw [zipL_ints] at hd
    obtain ⟨i, hi, rfl⟩ := List.getElem_of_mem hd
    rw [List.getElem_zipWith]
    refine ⟨_, rfl, ?_⟩
    walk_at "wp"
    refine wp_mulI ?_ ?_
    · have h1 := log2_le (i := f) (k := e1) (Nat.lt_trans hf (Nat.pow_lt_pow_right (by decide) (Nat.lt_succ_self _)))
      have h2 := log2_le (i := one[i]'(by rw [List.length_zipWith] at hi; omega)) (k := e2) (Nat.lt_trans (ho _ (List.getElem_mem _)) (Nat.pow_lt_pow_right (by decide) (Nat.lt_succ_self _)))
      omega
    walk_at "wp"
    exact ⟨rfl, Kp.refl _ _⟩
  · walk_at "wp"
    refine wp_tuple (xs := (List.zipWith (fun a b => f * a + b) one other).map .int) ?_ (q _ k1)
    simp only [seqOf, lstOf, g, zipL_ints, List.map_zipWith]
/-- the columns -/
theorem basis_ok {a b k n : Nat} {st : Sto} {Q : D → Sto → Prop} (h : Strm a b k st) (hk : k < 2 ^ 30) (hn : n ≤ 12)
    (fin : ∀ rs k' st', IsB n rs → Strm a b k' st' → k' ≤ k + 1000 → Kp [a, b] st st' → Q (matD rs) st') : Wp (m__law_basis [.obj a, .int n]) st Q := by
  refine ws_run ?_
  show Ws b__law_basis [some (.obj a), some (.int n), none, none, none, none, none, none, none, none] st _ _ _ _
  unfold b__law_basis
  walk_at "wp"
  refine wp_powI (by decide) ?_
  walk_at "wp"
  refine ⟨by decide, ?_⟩
  have hmenu : ∀ i : Int, 0 ≤ i → i < 10 → ∃ m : Int, atI [D.int 1, .int 1, .int 2, .int 3, .int 4, .int 6, .int 12, .int 35, .int 1000003, .int (10 ^ Int.toNat 40)] i = some (.int m) ∧ 0 < m ∧ m.natAbs < 2 ^ 133 := fun i h0 h1 => by
    have : i = 0 ∨ i = 1 ∨ i = 2 ∨ i = 3 ∨ i = 4 ∨ i = 5 ∨ i = 6 ∨ i = 7 ∨ i = 8 ∨ i = 9 := by omega
    rcases this with rfl | rfl | rfl | rfl | rfl | rfl | rfl | rfl | rfl | rfl <;> exact ⟨_, rfl, by decide, by decide⟩
  generalize [D.int 1, .int 1, .int 2, .int 3, .int 4, .int 6, .int 12, .int 35, .int 1000003, .int (10 ^ Int.toNat 40)] = menu at hmenu ⊢
  walk_at "wp"
  refine (wp_lc (mi := itR1 (eVar 1)) (src := (rngL 0 n, fun _ => True)) (st1 := st) ?_ (fun i acc s => ∃ cols : List Nat, acc = cols.map (fun c : Nat => D.int c) ∧ cols.Pairwise (· < ·) ∧ (∀ c ∈ cols, c < i) ∧ Strm a b (k + i) s ∧ Kp [a, b] st s ∧ s[st.length]? = some (.lst acc) ∧ cols.length ≤ i) ?_ ?_ ?_).mono ?_
  · obtain ⟨s1, st1, e1, e2, e3⟩ : Wp (itR1 (eVar 1) ([some (.obj a), some (.int n), none, none, none, none, none, none, none, none].set 2 (some (.lst menu)))) st fun s st' => s = (rngL 0 n, fun _ => True) ∧ st' = st := by
      walk_at "wp"
      exact ⟨n, rfl, by omega, by omega, rfl, rfl⟩
    rw [e2, e3] at e1
    exact e1
  · exact ⟨[], rfl, by simp, by simp, h.app _, Kp.app _ _ _, app_get, Nat.le_refl _⟩
  · exact fun _ _ _ _ => trivial
  · rintro i d acc s hd ⟨cols, rfl, asc, hc, S, K, g, hcl⟩
    obtain ⟨rfl, hi⟩ := rngL_get hd
    refine ⟨_, rfl, ?_⟩
    walk_at "wp"
    refine ⟨rfl, draw S (by omega) (by decide) (by decide) fun v s1 hv1 hv2 S1 K1 => ?_⟩
    walk_at "wp"
    have g1 := K1.at' _ _ (h.nin (Nat.le_refl _)) g
    refine if_bl (fun hv => ?_) fun hv => ?_
    · walk_at "wp"
      refine ⟨g1, by rw [List.length_map]; omega, cols ++ [i], by simp, ?_, ?_, S1.set (h.nin (Nat.le_refl _)) _, (K.trans K1).set (.inl (Nat.le_refl _)) _, ?_, by simpa using hcl⟩
      · rw [List.pairwise_append]
        exact ⟨asc, by simp, fun x hx y hy => by
          have : y = i := by simpa using hy
          have := hc x hx
          omega⟩
      · intro c hcm
        rcases List.mem_append.mp hcm with hcm | hcm
        · have := hc c hcm
          omega
        · have : c = i := by simpa using hcm
          omega
      · rw [Int.zero_add]
        exact set_get g1
    · exact ⟨cols, rfl, asc, fun c hcm => Nat.lt_succ_of_lt (hc c hcm), S1, K.trans K1, g1, Nat.le_succ_of_le hcl⟩
  rintro d s ⟨rfl, acc, cols, rfl, asc, hc, S, K, g, hcl⟩
  rw [show (rngL 0 (n : Int), fun _ : Sto => True).1 = rngL 0 n from rfl, rngL_len, Int.sub_zero, Int.toNat_natCast] at *
  have hp : st.length ∉ [a, b] := h.nin (Nat.le_refl _)
  generalize st.length = p at *
  walk_at "wp"
  refine ⟨by decide, ?_⟩
  have hq : s.length ∉ [a, b] := S.nin (Nat.le_refl _)
  have hpq : p ≠ s.length := by have := (List.getElem?_eq_some_iff.mp g).1; omega
  have hap : p ∉ [a, b] := hp
  have S1 := S.app (.lst [])
  have K1 : Kp [a, b] st (s ++ [.lst []]) := K.trans (Kp.app _ _ _)
  have g1 : (s ++ [O.lst []])[p]? = some (.lst (cols.map fun c : Nat => D.int c)) := (Kp.app [] s (.lst [])).at' _ _ (by simp) g
  have gq : (s ++ [O.lst []])[s.length]? = some (.lst []) := app_get
  generalize s ++ [O.lst []] = s1 at S1 K1 g1 gq ⊢
  generalize hqe : s.length = q at *
  have hlq : st.length ≤ q := by rw [← hqe]; exact K.len
  walk_at "wp"
  refine ws_for (cols.map fun c : Nat => D.int c, fun st' => seqOf st' (.obj p) = some (cols.map fun c : Nat => D.int c))
    (fun i env s => ∃ (u5 u6 u7 u8 u9 : Option D) (rs : List (List Int)) (k' : Nat), env = [some (.obj a), some (.int n), some (.lst menu), some (.obj p), some (.obj q), u5, u6, u7, u8, u9] ∧ Strm a b k' s ∧ k' ≤ k + n + 50 * i ∧ Kp [a, b] st s ∧
      s[p]? = some (.lst (cols.map fun c : Nat => D.int c)) ∧ s[q]? = some (.lst (rs.map rowD)) ∧ rs.length = i ∧ (∀ h < i, (rs.getD h []).length = n) ∧ (∀ h < i, ∀ c < cols.getD h 0, ent rs h c = 0) ∧ (∀ h < i, 0 < ent rs h (cols.getD h 0)) ∧ ∀ h c, (ent rs h c).natAbs < 2 ^ 133) ?_ ?_ ?_ ?_
  · walk_at "wp"
    exact ⟨_, by simp only [seqOf, lstOf, g1], rfl, _, _, _, _, _, [], k + n, rfl, S1, by omega, K1, g1, gq, rfl, fun h hh => absurd hh (Nat.not_lt_zero _), fun h hh => absurd hh (Nat.not_lt_zero _), fun h hh => absurd hh (Nat.not_lt_zero _), fun h c => (by decide : (0 : Int).natAbs < 2 ^ 133)⟩
  · rintro i env s ⟨u5, u6, u7, u8, u9, rs, k', rfl, _, _, _, g, _⟩
    simp only [seqOf, lstOf, g]
  · rintro i d env s hd ⟨u5, u6, u7, u8, u9, rs, k', rfl, S, hk', K, g, gq, hrl, hr1, hr2, hr3, hr4⟩
    rw [List.getElem?_map] at hd
    cases ec : cols[i]? with
    | none => rw [ec] at hd; cases hd
    | some c =>
    rw [ec] at hd
    cases hd
    have hi := (List.getElem?_eq_some_iff.mp ec).1
    have hci : cols.getD i 0 = c := by rw [List.getD_eq_getElem?_getD, ec]; rfl
    have hcn : c < n := hc c (List.mem_of_getElem? ec)
    refine ⟨_, rfl, ?_⟩
    walk_at "wp"
    refine ⟨by decide, ?_⟩
    walk_at "wp"
    refine wp_rep (by omega) (by simp; omega) (by omega) ?_
    walk_at "wp"
    refine ⟨rfl, draw S (by omega) (by decide) (by decide) fun v s1 hv1 hv2 S1 K1 => ?_⟩
    obtain ⟨m, em, hm1, hm2⟩ := hmenu v hv1 hv2
    refine wp_ixL rfl em ?_
    walk_at "wp"
    refine ⟨by simp, ?_⟩
    refine wp_addN (xs := List.replicate c (.int 0)) (ys := [.int m]) (by simp only [lstOf, rep1, Int.toNat_natCast]) rfl (by simp; omega) ?_
    have e0 : List.replicate c (D.int 0) ++ [D.int m] = (List.replicate c 0 ++ [m]).map D.int := by simp
    rw [e0]
    have ht : s1.length ∉ [a, b] := S1.nin (Nat.le_refl _)
    have g1 := K1.at' _ _ hap g
    have gq1 := K1.at' _ _ hq gq
    have hpt : p ≠ s1.length := by have := (List.getElem?_eq_some_iff.mp g1).1; omega
    have hqt : q ≠ s1.length := by have := (List.getElem?_eq_some_iff.mp gq1).1; omega
    have S2 := S1.app (.lst ((List.replicate c 0 ++ [m]).map D.int))
    have K2 : Kp [a, b] st (s1 ++ [.lst ((List.replicate c 0 ++ [m]).map D.int)]) := (K.trans K1).trans (Kp.app _ _ _)
    have gt : (s1 ++ [O.lst ((List.replicate c 0 ++ [m]).map D.int)])[s1.length]? = _ := app_get
    have g2 := (Kp.app [] s1 (.lst ((List.replicate c 0 ++ [m]).map D.int))).at' _ _ (by simp) g1
    have gq2 := (Kp.app [] s1 (.lst ((List.replicate c 0 ++ [m]).map D.int))).at' _ _ (by simp) gq1
    have hlt' : st.length ≤ s1.length := (K.trans K1).len
    generalize s1 ++ [O.lst ((List.replicate c 0 ++ [m]).map D.int)] = s2 at S2 K2 gt g2 gq2 ⊢
    generalize s1.length = t at *
    clear S1 K1 g1 gq1 e0
    walk_at "wp"
    refine ws_while (fun env s => ∃ (u8 u9 : Option D) (xs : List Int) (k2 : Nat), env = [some (.obj a), some (.int n), some (.lst menu), some (.obj p), some (.obj q), some (.int c), u6, some (.obj t), u8, u9] ∧ Strm a b k2 s ∧ k2 ≤ k' + 1 + 3 * xs.length ∧ Kp [a, b] st s ∧
        s[p]? = some (.lst (cols.map fun c : Nat => D.int c)) ∧ s[q]? = some (.lst (rs.map rowD)) ∧ s[t]? = some (.lst (xs.map D.int)) ∧ xs.length ≤ n ∧ c < xs.length ∧ (∀ j < c, xs.getD j 0 = 0) ∧ 0 < xs.getD c 0 ∧ ∀ j, (xs.getD j 0).natAbs < 2 ^ 133)
      (fun env s => match s[t]? with | some (.lst l) => n - l.length | _ => 0) ?_ ?_
    · have hx : ∀ j, (List.replicate c (0 : Int) ++ [m]).getD j 0 = if j = c then m else 0 := fun j => by
        by_cases h1 : j < c
        · rw [if_neg (by omega), List.getD_eq_getElem?_getD, List.getElem?_append_left (by simpa using h1), List.getElem?_replicate, if_pos h1]
          rfl
        · by_cases h2 : j = c
          · subst h2
            rw [if_pos rfl]
            have := getD_app_e (xs := List.replicate j (0 : Int)) (y := m) (d := 0)
            rwa [List.length_replicate] at this
          · rw [if_neg h2, getD_ge (by simp; omega)]
      refine ⟨_, _, _, k' + 1, rfl, S2, by omega, K2, g2, gq2, gt, by simp; omega, by simp, fun j hj => ?_, ?_, fun j => ?_⟩
      · rw [hx, if_neg (by omega)]
      · rw [hx, if_pos rfl]; exact hm1
      · rw [hx]
        split
        · exact hm2
        · decide
    · rintro env s ⟨u8, u9, xs, k2, rfl, S, hk2, K, g, gq, gt, hx1, hx2, hx3, hx4, hx5⟩
      walk_at "wp"
      refine wp_len (xs := xs.map D.int) (by simp only [seqOf, lstOf, gt]) ?_
      walk_at "wp"
      rw [List.length_map]
      refine if_bl (fun hlt => ?_) fun hlt => ?_
      · walk_at "wp"
        refine ⟨by simp only [lstOf, gt]; rfl, ?_⟩
        walk_at "wp"
        refine ⟨rfl, draw S (by omega) (by decide) (by decide) fun v1 s1 hv1 hv2 S1 K1 => ?_⟩
        walk_at "wp"
        refine wp_powI (by decide) ?_
        walk_at "wp"
        refine ⟨rfl, draw S1 (by omega) (by decide) (by decide) fun v2 s2 hw1 hw2 S2 K2 => ?_⟩
        walk_at "wp"
        refine ⟨by simp, ?_⟩
        walk_at "wp"
        refine ⟨rfl, draw S2 (by omega) (by decide) (by decide) fun v3 s3 hz1 hz2 S3 K3 => ?_⟩
        have K4 := (K1.trans K2).trans K3
        have gt3 := K4.at' _ _ ht gt
        have hv : ∃ w : Int, atI [D.int 0, .int (v1 - 3), .int v2] v3 = some (.int w) ∧ w.natAbs < 2 ^ 133 := by
          have : v3 = 0 ∨ v3 = 1 ∨ v3 = 2 := by omega
          have h20 : (10 : Int) ^ Int.toNat 20 = 100000000000000000000 := by decide
          rcases this with rfl | rfl | rfl
          · exact ⟨_, rfl, by decide⟩
          · exact ⟨_, rfl, by omega⟩
          · exact ⟨_, rfl, by omega⟩
        obtain ⟨w, ew, hw⟩ := hv
        refine wp_ixL rfl ew ?_
        walk_at "wp"
        refine wp_app gt3 (by rw [List.length_map]; omega) ?_
        have ex : xs.map D.int ++ [D.int w] = (xs ++ [w]).map D.int := by simp
        rw [ex]
        refine ⟨⟨_, _, xs ++ [w], k2 + 1 + 1 + 1, rfl, S3.set ht _, by simp; omega, (K.trans K4).set (.inl hlt') _, set_get_ne (Ne.symm hpt) (K4.at' _ _ hap g), set_get_ne (Ne.symm hqt) (K4.at' _ _ hq gq), set_get gt3, by simp; omega, by simp; omega, fun j hj => ?_, ?_, fun j => ?_⟩, ?_⟩
        · rw [getD_app_l (by omega)]; exact hx3 j hj
        · rw [getD_app_l hx2]; exact hx4
        · by_cases h1 : j < xs.length
          · rw [getD_app_l h1]; exact hx5 j
          · by_cases h2 : j = xs.length
            · subst h2; rw [getD_app_e]; exact hw
            · rw [getD_ge (by simp; omega)]; decide
        · simp only [set_get gt3, gt, List.length_map, List.length_append, List.length_singleton]
          omega
      · have hxn : xs.length = n := by omega
        walk_at "wp"
        refine ⟨by simp only [lstOf, gq]; rfl, ?_⟩
        walk_at "wp"
        refine wp_tuple (xs := xs.map D.int) (by simp only [seqOf, lstOf, gt]) ?_
        walk_at "wp"
        refine wp_app gq (by rw [List.length_map]; omega) ?_
        have ex : rs.map rowD ++ [D.tup (xs.map D.int)] = (rs ++ [xs]).map rowD := by simp [rowD]
        rw [ex]
        have hE : ∀ h c, ent (rs ++ [xs]) h c = if h = i then xs.getD c 0 else ent rs h c := fun h c => by
          unfold ent
          by_cases h1 : h < rs.length
          · rw [getD_app_l h1, if_neg (by omega)]
          · by_cases h2 : h = i
            · rw [if_pos h2, h2, ← hrl, getD_app_e]
            · rw [if_neg h2, getD_ge (xs := rs ++ [xs]) (by simp; omega), getD_ge (xs := rs) (by omega)]
        refine ⟨_, _, _, _, _, rs ++ [xs], k2, rfl, S.set hq _, by omega, K.set (.inl hlq) _, set_get_ne (Ne.symm hpq) g, set_get gq, by simp; omega, fun h hh => ?_, fun h hh c' hc' => ?_, fun h hh => ?_, fun h c' => ?_⟩
        · by_cases h1 : h < i
          · rw [getD_app_l (by omega)]; exact hr1 h h1
          · have : h = rs.length := by omega
            subst this
            rw [getD_app_e]; exact hxn
        · rw [hE]
          split
          · rename_i e
            subst e
            rw [hci] at hc'
            exact hx3 c' hc'
          · exact hr2 h (by omega) c' hc'
        · rw [hE]
          split
          · rename_i e
            subst e
            rw [hci]
            exact hx4
          · exact hr3 h (by omega)
        · rw [hE]
          split
          · exact hx5 c'
          · exact hr4 h c'
  rintro env s2 ⟨u5, u6, u7, u8, u9, rs, k', rfl, S, hk', K, g, gq, hrl, hr1, hr2, hr3, hr4⟩
  rw [List.length_map] at *
  have R0 : Red n cols 133 0 0 rs := ⟨hrl, fun h hh => hr1 h (by omega), fun h hh => hr2 h (by omega), fun h hh => hr3 h (by omega), fun g hg => absurd hg (Nat.not_lt_zero _), fun h hh => absurd hh (Nat.not_lt_zero _), fun h _ => hr4 h, fun h hh => absurd hh (Nat.not_lt_zero _), fun h hh => absurd hh (Nat.not_lt_zero _)⟩
  clear hr1 hr2 hr3 hr4 hrl
  have hcl : cols.length ≤ 12 := by omega
  have hk2 : k' ≤ k + 1000 := by omega
  walk_at "wp"
  refine ws_for (enumL (cols.map fun c : Nat => D.int c), fun st' => seqOf st' (.obj p) = some (cols.map fun c : Nat => D.int c))
    (fun i env s => ∃ (u5 u6 u7 u8 u9 : Option D) (rs : List (List Int)), env = [some (.obj a), some (.int n), some (.lst menu), some (.obj p), some (.obj q), u5, u6, u7, u8, u9] ∧ Strm a b k' s ∧ Kp [a, b] st s ∧
      s[p]? = some (.lst (cols.map fun c : Nat => D.int c)) ∧ s[q]? = some (.lst (rs.map rowD)) ∧ Red n cols 133 i 0 rs) ?_ ?_ ?_ ?_
  · walk_at "wp"
    exact ⟨_, by simp only [seqOf, lstOf, g], rfl, _, _, _, _, _, rs, rfl, S, K, g, gq, R0⟩
  · rintro i env s ⟨u5, u6, u7, u8, u9, rs, rfl, _, _, g, _⟩
    simp only [seqOf, lstOf, g]
  · rintro i d env s hd ⟨u5, u6, u7, u8, u9, rs, rfl, S, K, g, gq, R⟩
    obtain ⟨x, hx, rfl⟩ := enumL_get hd
    rw [List.getElem?_map] at hx
    cases ec : cols[i]? with
    | none => rw [ec] at hx; cases hx
    | some c =>
    rw [ec] at hx
    cases hx
    have hi := (List.getElem?_eq_some_iff.mp ec).1
    have hci : cols.getD i 0 = c := by rw [List.getD_eq_getElem?_getD, ec]; rfl
    have hcn : c < n := hc c (List.mem_of_getElem? ec)
    refine ⟨_, rfl, ?_⟩
    refine ws_for (rngL 0 (i : Nat), fun _ => True)
      (fun j env s => ∃ (u7 u8 u9 : Option D) (rs : List (List Int)), env = [some (.obj a), some (.int n), some (.lst menu), some (.obj p), some (.obj q), some (.int c), some (.int i), u7, u8, u9] ∧ Strm a b k' s ∧ Kp [a, b] st s ∧
        s[p]? = some (.lst (cols.map fun c : Nat => D.int c)) ∧ s[q]? = some (.lst (rs.map rowD)) ∧ Red n cols 133 i j rs) ?_ ?_ ?_ ?_
    · walk_at "wp"
      exact ⟨i, rfl, by omega, by omega, rfl, _, _, _, rs, rfl, S, K, g, gq, R⟩
    · exact fun _ _ _ _ => trivial
    · rintro j d env s hd ⟨u7, u8, u9, rs, rfl, S, K, g, gq, R⟩
      obtain ⟨rfl, hj⟩ := rngL_get hd
      rw [Int.zero_add] at *
      have hji : j < i := by omega
      have hil : i < rs.length := by rw [R.len]; exact hi
      have hjl : j < rs.length := by omega
      have rj : (rs.map rowD)[j]? = some (rowD (rs.getD j [])) := by rw [List.getElem?_map, List.getD_eq_getElem?_getD, List.getElem?_eq_getElem hjl]; rfl
      have ri : (rs.map rowD)[i]? = some (rowD (rs.getD i [])) := by rw [List.getElem?_map, List.getD_eq_getElem?_getD, List.getElem?_eq_getElem hil]; rfl
      have sq : seqOf s (.obj q) = some (rs.map rowD) := by simp only [seqOf, lstOf, gq]
      have hp0 := R.pos i hil
      have hb0 := R.bnd0 i (Nat.le_refl _)
      rw [hci] at hp0
      refine ⟨_, rfl, ?_⟩
      walk_at "wp"
      refine wp_ixL sq (atI_at rj) ?_
      walk_at "wp"
      refine wp_ixR (by rw [R.row j hjl]; exact hcn) ?_
      walk_at "wp"
      refine wp_ixL sq (atI_at ri) ?_
      walk_at "wp"
      refine wp_ixR (by rw [R.row i hil]; exact hcn) ?_
      refine wp_divI (i := ent rs j c) (j := ent rs i c) (by omega) (Nat.lt_of_le_of_lt (log2_le (k := 133) (Nat.lt_trans (hb0 c) (by decide))) (by decide)) ?_
      walk_at "wp"
      refine wp_ixL sq (atI_at ri) ?_
      walk_at "wp"
      refine wp_ixL sq (atI_at rj) ?_
      walk_at "wp"
      refine ⟨rfl, plus_ok (e1 := 134 * (i + 1)) (e2 := 133) ?_ ?_ (by omega) (by rw [R.row i hil]; omega) fun s1 K1 => ?_⟩
      · rw [Int.zero_sub, Int.natAbs_neg]
        exact Nat.lt_of_le_of_lt (fdiv_abs hp0) (R.bnd2 j hji (Nat.le_refl _) c)
      · intro x hx
        obtain ⟨c', hc', rfl⟩ := mem_getD (d := 0) hx
        exact hb0 c'
      walk_at "wp"
      have gq1 := K1.at' _ _ (by simp) gq
      refine wp_setD gq1 (j := j) (by unfold ixN; rw [if_pos (by omega), if_pos (by rw [List.length_map]; omega), Int.toNat_natCast]) ?_
      rw [← List.map_set]
      refine ⟨_, _, _, _, rfl, (S.kp K1).set hq _, (K.trans (K1.more (by simp))).set (.inl hlq) _, set_get_ne (Ne.symm hpq) (K1.at' _ _ (by simp) g), set_get gq1, ?_⟩
      exact R.step asc hji hil _ (by rw [hci])
    · rintro env s ⟨u7, u8, u9, rs, rfl, S, K, g, gq, R⟩
      rw [show (rngL 0 ((i : Nat) : Int), fun _ : Sto => True).1 = rngL 0 i from rfl, rngL_len, Int.sub_zero, Int.toNat_natCast] at R
      exact ⟨_, _, _, _, _, rs, rfl, S, K, g, gq, R.next⟩
  rintro env s ⟨u5, u6, u7, u8, u9, rs, rfl, S, K, g, gq, R⟩
  rw [show (enumL (cols.map fun c : Nat => D.int c), fun st' => seqOf st' (.obj p) = some (cols.map fun c : Nat => D.int c)).1 = enumL (cols.map fun c : Nat => D.int c) from rfl, enumL_len, List.length_map] at R
  walk_at "wp"
  refine wp_tuple (xs := rs.map rowD) (by simp only [seqOf, lstOf, gq]) ?_
  exact fin rs k' s (R.isB asc hc) S hk2 K
end Lk05

namespace Lk05
open PySem PySem.Spec PyProof.Rows L2 Mir

local macro_rules | `(tactic| walk_at "wp") => `(tactic| repeat (first
  | with_reducible refine ws_seq ?_
  | with_reducible refine ws_set ?_
  | with_reducible refine ws_ret ?_
  | with_reducible refine ws_if ?_
  | with_reducible refine ws_setI ?_
  | with_reducible refine ws_expr ?_
  | with_reducible refine ws_nil ?_
  | with_reducible refine wp_var (by with_unfolding_all rfl) ?_
  | with_reducible refine wp_c ?_
  | with_reducible refine wp_op ?_
  | with_reducible refine wp_un ?_
  | with_reducible refine wp_and ?_
  | with_reducible refine wp_or ?_
  | with_reducible refine wp_not ?_
  | with_reducible refine wp_tst ?_
  | with_reducible refine wp_tand ?_
  | with_reducible refine wp_tor ?_
  | with_reducible refine wp_tnot ?_
  | with_reducible refine wp_chain ?_
  | with_reducible refine wp_ife ?_
  | with_reducible refine wa_nil ?_
  | with_reducible refine wa_cons ?_
  | with_reducible refine wp_lst ?_
  | with_reducible refine wp_tup ?_
  | with_reducible refine wp_new ?_
  | with_reducible refine wp_fn ?_
  | with_reducible refine wp_fn1 ?_
  | with_reducible refine wp_call ?_
  | with_reducible refine wp_lm ?_
  | with_reducible refine wp_slice ?_
  | with_reducible refine wo_none ?_
  | with_reducible refine wo_some ?_
  | with_reducible refine wi_seq ?_
  | with_reducible refine wi_enum ?_
  | with_reducible refine wi_rng1 ?_
  | with_reducible refine wi_rng2 ?_
  | with_reducible refine wi_zip ?_
  | with_reducible refine wp_addI ?_
  | with_reducible refine wp_subI ?_
  | with_reducible refine wp_negI ?_
  | with_reducible refine wp_gtI ?_
  | with_reducible refine wp_ltI ?_
  | with_reducible refine wp_geI ?_
  | with_reducible refine wp_leI ?_
  | with_reducible refine wp_eqF ?_
  | with_reducible refine wp_neF ?_
  | with_reducible refine ex_bl ?_
  | (with_reducible refine if_tt ?_)
  | (with_reducible refine if_ff ?_)
  | (with_reducible refine And.intro (show List.length (List.cons _ _) ≤ 1000000 by simp only [List.length_cons, List.length_nil]; decide) ?_)
  | (with_reducible refine And.intro (show List.length List.nil ≤ 1000000 by decide) ?_)
  | (with_reducible refine And.intro (show List.length (List.cons _ _) = _ from rfl) ?_)))


/-- a thing without the store, not too long -/
def okD (d : D) : Prop := puD d = true ∧ ∀ ds, d = .tup ds → ds.length ≤ 4000
theorem okD_of {d : D} (h : puD d = true) (hn : isT d = false) : okD d := ⟨h, fun ds e => by subst e; cases hn⟩
theorem any_ok {a b k : Nat} {st : Sto} {Q : D → Sto → Prop} (h : Strm a b k st) (hk : k < 2 ^ 31) (q : ∀ d st', okD d → Strm a b (k + 1) st' → Kp [a, b] st st' → Q d st') : Wp (m__law_any [.obj a]) st Q := by
  refine ws_run ?_
  show Ws b__law_any [some (.obj a), none] st _ _ _ _
  unfold b__law_any
  walk_at "wp"
  refine wp_powI (by decide) ?_
  walk_at "wp"
  refine draw h (by omega) (by decide) (by decide) fun i st' h1 h2 S K => ?_
  have T : ∀ {xs : List D}, puD (.tup xs) = true → xs.length ≤ 4000 → okD (.tup xs) := fun {xs} h hl => ⟨h, fun ds e => by cases e; exact hl⟩
  have : i = 0 ∨ i = 1 ∨ i = 2 ∨ i = 3 ∨ i = 4 ∨ i = 5 ∨ i = 6 ∨ i = 7 ∨ i = 8 ∨ i = 9 ∨ i = 10 ∨ i = 11 ∨ i = 12 ∨ i = 13 ∨ i = 14 ∨ i = 15 ∨ i = 16 ∨ i = 17 := by omega
  rcases this with rfl | rfl | rfl | rfl | rfl | rfl | rfl | rfl | rfl | rfl | rfl | rfl | rfl | rfl | rfl | rfl | rfl | rfl <;>
    exact wp_ixL rfl rfl (q _ _ (by first | exact okD_of rfl rfl | exact T rfl (by decide)) S K)
theorem changed_ok {a b k n : Nat} {rs : List (List Int)} {st : Sto} {Q : D → Sto → Prop} (h : Strm a b k st) (hk : k < 2 ^ 30) (hn : 1 ≤ n) (hn2 : n ≤ 12) (hr : rs.length ≤ 12) (hl : ∀ r ∈ rs, r.length = n)
    (fin : ∀ d k' st', okD d → Strm a b k' st' → k' ≤ k + 20 → Kp [a, b] st st' → Q d st') : Wp (m__law_changed [.obj a, matD rs, .int n]) st Q := by
  refine ws_run ?_
  show Ws b__law_changed [some (.obj a), some (matD rs), some (.int n), none, none, none, none, none, none, none] st _ _ _ _
  unfold b__law_changed
  have T : ∀ {xs : List D}, puD (.tup xs) = true → xs.length ≤ 4000 → okD (.tup xs) := fun {xs} h hl => ⟨h, fun ds e => by cases e; exact hl⟩
  have okM : okD (matD rs) := T (puD_mat rs) (by simp; omega)
  walk_at "wp"
  refine draw h (by omega) (by decide) (by decide) fun way st1 hw1 hw2 S1 K1 => ?_
  walk_at "wp"
  /- the early return -/
  have early : ∀ {N B C : Mir.Env → Sto → Prop}, Ws (sRet (eOp ixD (eLst (aCons (eVar 1) (aCons (eCall 1 m__law_any [] (aCons (eVar 0) aNil)) aNil))) (eFn (fn1 intD) (aCons (eOp gtD (eVar 3) (eC (.int 10))) aNil)))) [some (.obj a), some (matD rs), some (.int n), some (.int way), none, none, none, none, none, none] st1 N Q B C := by
    intro N B C
    walk_at "wp"
    refine any_ok S1 (by omega) fun d st2 hd S2 K2 => ?_
    walk_at "wp"
    refine wp_intB ?_
    by_cases h10 : 10 < way
    · rw [decide_eq_true h10]
      exact wp_ixL rfl rfl (fin _ _ _ hd S2 (by omega) (K1.trans K2))
    · rw [decide_eq_false h10]
      exact wp_ixL rfl rfl (fin _ _ _ okM S2 (by omega) (K1.trans K2))
  refine if_bl (fun h8 => if_tt early) fun h8 => ?_
  walk_at "wp"
  refine wp_eqP (n := 2) (m := 1) rfl rfl (plD_mat 0 rs) rfl (by decide) (by decide) ?_
  walk_at "wp"
  cases rs with
  | nil => exact if_tt early
  | cons r0 rs0 =>
  refine if_ff ?_
  clear early
  generalize hrs : r0 :: rs0 = rs at *
  have hrl : 0 < rs.length := by rw [← hrs]; simp
  walk_at "wp"
  refine wp_len (xs := rs.map rowD) rfl ?_
  walk_at "wp"
  rw [List.length_map]
  refine draw S1 (by omega) (by omega) (by rw [Int.natAbs_natCast]; exact Nat.lt_of_le_of_lt hr (by decide)) fun at' st2 ha1 ha2 S2 K2 => ?_
  walk_at "wp"
  refine draw S2 (by omega) (by omega) (by rw [Int.natAbs_natCast]; exact Nat.lt_of_le_of_lt hn2 (by decide)) fun col st3 hc1 hc2 S3 K3 => ?_
  obtain ⟨at', rfl⟩ := Int.eq_ofNat_of_zero_le ha1
  obtain ⟨col, rfl⟩ := Int.eq_ofNat_of_zero_le hc1
  have hat : at' < rs.length := by omega
  have hcol : col < n := by omega
  have K3 := (K1.trans K2).trans K3
  walk_at "wp"
  refine wp_ixM hat ?_
  have hrow : (rs.getD at' []).length = n := hl _ (getD_mem hat)
  generalize rs.getD at' [] = row at hrow ⊢
  walk_at "wp"
  refine ⟨_, rfl, wp_slicePre (xs := row.map D.int) ?_⟩
  walk_at "wp"
  refine wp_ixR (by omega) ?_
  walk_at "wp"
  refine draw S3 (by omega) (by decide) (by decide) fun v st4 hv1 hv2 S4 K4 => ?_
  have K4 := K3.trans K4
  have hv : ∃ w : Int, atI [D.int 1, .int (-1)] v = some (.int w) := by
    have : v = 0 ∨ v = 1 := by omega
    rcases this with rfl | rfl
    · exact ⟨_, rfl⟩
    · exact ⟨_, rfl⟩
  obtain ⟨w, ew⟩ := hv
  refine wp_ixL rfl ew ?_
  walk_at "wp"
  have hpre : ∀ {m : Nat}, puD (.tup ((row.map D.int).take m)) = true := puD_sub (puD_ints row) fun x hx => List.mem_of_mem_take hx
  have hpost : ∀ {m : Nat}, puD (.tup ((row.map D.int).drop m)) = true := puD_sub (puD_ints row) fun x hx => List.mem_of_mem_drop hx
  have lpre : ∀ {m : Nat}, ((row.map D.int).take m).length ≤ 12 := by intro m; rw [List.length_take, List.length_map]; omega
  have lpost : ∀ {m : Nat}, ((row.map D.int).drop m).length ≤ 12 := by intro m; rw [List.length_drop, List.length_map]; omega
  generalize hP : (row.map D.int).take col = P
  have pP : puD (.tup P) = true := by rw [← hP]; exact hpre
  have lP : P.length ≤ 12 := by rw [← hP]; exact lpre
  refine wp_addT (by simp; omega) ?_
  walk_at "wp"
  refine ⟨_, rfl, wo_none (wp_slicePost (i := col + 1) (xs := row.map D.int) ?_)⟩
  generalize hO : (row.map D.int).drop (col + 1) = U
  have pO : puD (.tup U) = true := by rw [← hO]; exact hpost
  have lO : U.length ≤ 12 := by rw [← hO]; exact lpost
  refine wp_addT (by simp; omega) ?_
  walk_at "wp"
  have app2 : ∀ x, puD x = true → puD (.tup (P ++ [x] ++ U)) = true := fun x hx => by rw [puD_app, puD_app, pP, pO, puD_one hx]; rfl
  have pr := puD_row row
  have a1 := app2 (.int (row.getD col 0 + w)) rfl
  generalize D.tup (P ++ [D.int (row.getD col 0 + w)] ++ U) = A1 at a1 ⊢
  have S5 := S4.app (.lst [rowD row, rowD row, A1])
  have K5 : Kp [a, b] st (st4 ++ [.lst [rowD row, rowD row, A1]]) := K4.trans (Kp.app _ _ _)
  have g5 : (st4 ++ [O.lst [rowD row, rowD row, A1]])[st4.length]? = _ := app_get
  generalize st4 ++ [O.lst [rowD row, rowD row, A1]] = st5 at S5 K5 g5 ⊢
  generalize st4.length = p at g5 ⊢
  walk_at "wp"
  refine wl_map (fun d => match d with | .int x => .int (0 - x) | _ => .non) ?_
  walk_at "wp"
  refine ⟨row.map D.int, rfl, by show (row.map D.int).length ≤ _; rw [List.length_map]; omega, fun _ _ => rfl, fun d hd st2 k => ?_, fun st6 K6 g6 => ?_⟩
  · obtain ⟨i, _, rfl⟩ := List.mem_map.mp hd
    refine ⟨_, rfl, ?_⟩
    walk_at "wp"
    exact ⟨rfl, Kp.refl _ _⟩
  walk_at "wp"
  have en : (row.map D.int).map (fun d => match d with | .int x => D.int (0 - x) | _ => .non) = (row.map fun x => 0 - x).map D.int := by simp [List.map_map, Function.comp_def]
  refine wp_tuple (xs := (row.map fun x => 0 - x).map D.int) (by simp only [seqOf, lstOf, g6]; exact congrArg some en) ?_
  have pn := puD_ints (row.map fun x => 0 - x)
  generalize D.tup ((row.map fun x => 0 - x).map D.int) = A2 at pn ⊢
  have g5 := K6.at' _ _ (by simp) g5
  have S6 := S5.kp K6
  have K6 := K5.trans (K6.more (by simp))
  clear g6 en
  walk_at "wp"
  refine wp_repT rfl (by omega) (by omega) (by decide) ?_
  rw [rep1, Int.toNat_natCast]
  have pz : puD (.tup (List.replicate n (D.int 0))) = true := by
    have := puD_ints (List.replicate n 0)
    rwa [List.map_replicate] at this
  generalize D.tup (List.replicate n (D.int 0)) = A3 at pz ⊢
  walk_at "wp"
  refine wp_list (xs := row.map D.int) rfl ?_
  have pl : puD (.lst (row.map D.int)) = true := by simpa only [rowD, puD] using pr
  generalize D.lst (row.map D.int) = A4 at pl ⊢
  walk_at "wp"
  refine wp_addT (by simp; omega) ?_
  have pq : puD (.tup (row.map D.int ++ [D.int 0])) = true := by
    rw [puD_app, puD_ints]
    rfl
  generalize D.tup (row.map D.int ++ [D.int 0]) = A5 at pq ⊢
  walk_at "wp"
  refine wp_addN (by simp only [lstOf, g5]; rfl) rfl (by simp) ?_
  have S7 := S6.app (.lst ([rowD row, rowD row, A1] ++ [A2, A3, A4, A5]))
  have K7 : Kp [a, b] st (st6 ++ [.lst ([rowD row, rowD row, A1] ++ [A2, A3, A4, A5])]) := K6.trans (Kp.app _ _ _)
  have g7 : (st6 ++ [O.lst ([rowD row, rowD row, A1] ++ [A2, A3, A4, A5])])[st6.length]? = _ := app_get
  have ht7 : st6.length ∉ [a, b] := S6.nin (Nat.le_refl _)
  have hl7 : st.length ≤ st6.length := K6.len
  generalize st6 ++ [O.lst ([rowD row, rowD row, A1] ++ [A2, A3, A4, A5])] = st7 at S7 K7 g7 ⊢
  generalize st6.length = t at g7 ht7 hl7 ⊢
  walk_at "wp"
  refine ⟨by simp only [lstOf, g7]; rfl, ?_⟩
  walk_at "wp"
  refine ⟨_, rfl, wp_slicePre (xs := row.map D.int) ?_⟩
  rw [hP]
  walk_at "wp"
  refine any_ok S7 (by omega) fun d st8 hd S8 K8 => ?_
  walk_at "wp"
  refine wp_addT (by simp; omega) ?_
  walk_at "wp"
  refine ⟨_, rfl, wo_none (wp_slicePost (i := col + 1) (xs := row.map D.int) ?_)⟩
  rw [hO]
  refine wp_addT (by simp; omega) ?_
  walk_at "wp"
  have a6 := app2 d hd.1
  generalize D.tup (P ++ [d] ++ U) = A6 at a6 ⊢
  have g8 := K8.at' _ _ ht7 g7
  refine wp_app g8 (by simp) ?_
  have S9 := S8.set ht7 (.lst ([rowD row, rowD row, A1] ++ [A2, A3, A4, A5] ++ [A6]))
  have K9 : Kp [a, b] st (st8.set t (.lst ([rowD row, rowD row, A1] ++ [A2, A3, A4, A5] ++ [A6]))) := (K7.trans K8).set (.inl hl7) _
  have g9 := set_get g8 (o := .lst ([rowD row, rowD row, A1] ++ [A2, A3, A4, A5] ++ [A6]))
  have pA : ∀ x ∈ [rowD row, rowD row, A1] ++ [A2, A3, A4, A5] ++ [A6], puD x = true := by
    simp only [List.cons_append, List.nil_append, List.mem_cons, List.not_mem_nil, or_false]
    rintro x (rfl | rfl | rfl | rfl | rfl | rfl | rfl | rfl) <;> assumption
  generalize hL : [rowD row, rowD row, A1] ++ [A2, A3, A4, A5] ++ [A6] = L at *
  have hLl : L.length = 8 := by rw [← hL]; rfl
  generalize st8.set t (.lst L) = st9 at S9 K9 g9 ⊢
  clear S7 S8 g7 g8 K8 S6 S5 K7 K6 K5 g5
  have rpre : ∀ {m : Nat}, puD (.tup ((rs.map rowD).take m)) = true := puD_sub (puD_mat rs) fun x hx => List.mem_of_mem_take hx
  have rpost : ∀ {m : Nat}, puD (.tup ((rs.map rowD).drop m)) = true := puD_sub (puD_mat rs) fun x hx => List.mem_of_mem_drop hx
  have lrpre : ∀ {m : Nat}, ((rs.map rowD).take m).length ≤ 12 := by intro m; rw [List.length_take, List.length_map]; omega
  have lrpost : ∀ {m : Nat}, ((rs.map rowD).drop m).length ≤ 12 := by intro m; rw [List.length_drop, List.length_map]; omega
  walk_at "wp"
  refine ⟨_, rfl, wp_slicePre (xs := rs.map rowD) ?_⟩
  walk_at "wp"
  refine wp_modI (by decide) ?_
  have hm := fmod_rng (i := way) (j := 8) (by decide)
  obtain ⟨x, hx1, hx2⟩ := atI_get (xs := L) hm.1 (by rw [hLl]; exact hm.2)
  have px := pA x (List.mem_of_getElem? hx1)
  refine wp_ixL (by simp only [seqOf, lstOf, g9]) hx2 ?_
  walk_at "wp"
  refine wp_addT (by simp; omega) ?_
  walk_at "wp"
  refine ⟨_, rfl, wo_none (wp_slicePost (i := at' + 1) (xs := rs.map rowD) ?_)⟩
  refine wp_addT (by simp; omega) ?_
  walk_at "wp"
  refine if_bl (fun h0 => ?_) fun h0 => ?_
  · walk_at "wp"
    refine ⟨_, rfl, wo_none (wp_slicePost (xs := rs.map rowD) ?_)⟩
    walk_at "wp"
    refine ⟨_, rfl, wp_slicePre (xs := rs.map rowD) ?_⟩
    refine wp_addT (by have := @lrpre at'; have := @lrpost at'; omega) ?_
    exact fin _ _ _ (T (by rw [puD_app, rpre, rpost]; rfl) (by rw [List.length_append]; have := @lrpre at'; have := @lrpost at'; omega)) S9 (by omega) K9
  walk_at "wp"
  refine if_bl (fun h1 => ?_) fun h1 => ?_
  · walk_at "wp"
    refine ⟨_, rfl, wp_slicePre (xs := rs.map rowD) ?_⟩
    walk_at "wp"
    refine ⟨_, rfl, wo_none (wp_slicePost (i := at' + 1) (xs := rs.map rowD) ?_)⟩
    refine wp_addT (by have := @lrpre at'; have := @lrpost (at' + 1); omega) ?_
    exact fin _ _ _ (T (by rw [puD_app, rpre, rpost]; rfl) (by rw [List.length_append]; have := @lrpre at'; have := @lrpost (at' + 1); omega)) S9 (by omega) K9
  walk_at "wp"
  refine if_bl (fun h2 => ?_) fun h2 => ?_
  · walk_at "wp"
    refine wp_list (xs := rs.map rowD) rfl ?_
    walk_at "wp"
    refine wp_addT (by simp; omega) ?_
    walk_at "wp"
    refine draw S9 (by omega) (by decide) (by decide) fun v s1 hv1 hv2 Sa Ka => ?_
    have : v = 0 ∨ v = 1 := by omega
    rcases this with rfl | rfl
    · exact wp_ixL rfl rfl (fin _ _ _ (okD_of (by simpa only [puD, matD] using puD_mat rs) rfl) Sa (by omega) (K9.trans Ka))
    · exact wp_ixL rfl rfl (fin _ _ _ (T (by rw [puD_app, puD_one pr, Bool.and_true]; exact puD_mat rs) (by simp; omega)) Sa (by omega) (K9.trans Ka))
  walk_at "wp"
  exact fin _ _ _ (T (by rw [puD_app, puD_app, rpre, rpost, puD_one px]; rfl) (by rw [List.length_append, List.length_append]; have := @lrpre at'; have := @lrpost (at' + 1); simp only [List.length_singleton]; omega)) S9 (by omega) K9


theorem law_true (ns : List Int) : ∃ st, m_law [.scr ns] [] = .ok (.bl true) st := by
  suffices h : Wp (m_law [.scr ns]) [] fun d _ => d = .bl true by
    obtain ⟨d, st, e, rfl⟩ := h
    exact ⟨st, e⟩
  refine ws_run ?_
  show Ws b_law [some (.scr ns), none, none, none, none, none, none] [] _ _ _ _
  unfold b_law
  walk_at "wp"
  refine wp_listN (xs := ns.map .int) rfl ?_
  walk_at "wp"
  have S : Strm 1 0 0 [.lst (ns.map .int), .lst [.obj 0, .int 0, .int 0, .int 0]] := ⟨ns, 0, 0, 0, rfl, rfl, by decide, by decide, by decide, by decide, by decide, by decide⟩
  simp only [List.nil_append, List.cons_append, List.length_cons, List.length_nil, Nat.zero_add]
  generalize [O.lst (ns.map D.int), O.lst [.obj 0, .int 0, .int 0, .int 0]] = st at S ⊢
  refine draw S (by decide) (by decide) (by decide) fun v st1 hv1 hv2 S1 K1 => ?_
  have hv : ∃ m : Int, atI [D.int 4, .int 12] v = some (.int m) ∧ 0 < m ∧ m ≤ 12 := by
    have : v = 0 ∨ v = 1 := by omega
    rcases this with rfl | rfl
    · exact ⟨_, rfl, by decide, by decide⟩
    · exact ⟨_, rfl, by decide, by decide⟩
  obtain ⟨m, em, hm1, hm2⟩ := hv
  refine wp_ixL rfl em ?_
  walk_at "wp"
  refine ⟨rfl, draw S1 (by decide) hm1 (Nat.lt_of_le_of_lt (m := 12) (by omega) (by decide)) fun u st2 hu1 hu2 S2 K2 => ?_⟩
  obtain ⟨u, rfl⟩ := Int.eq_ofNat_of_zero_le hu1
  walk_at "wp"
  have hn1 : 1 ≤ 1 + u := by omega
  have hn2 : 1 + u ≤ 12 := by omega
  have en : (1 : Int) + (u : Nat) = ((1 + u : Nat) : Int) := by omega
  rw [en]
  generalize 1 + u = n at hn1 hn2 ⊢
  refine basis_ok S2 (by decide) hn2 fun rs k st3 hB S3 hk K3 => ?_
  have hrl : rs.length ≤ 12 := Nat.le_trans hB.count hn2
  walk_at "wp"
  refine ws_for (rngL 0 6, fun _ => True) (fun i env s => ∃ (u4 u5 u6 : Option D) (k' : Nat), env = [some (.scr ns), some (.obj 1), some (.int n), some (matD rs), u4, u5, u6] ∧ Strm 1 0 k' s ∧ k' ≤ k + 20 * i) ?_ ?_ ?_ ?_
  · walk_at "wp"
    exact ⟨6, rfl, by decide, by decide, rfl, _, _, _, k, rfl, S3, by omega⟩
  · exact fun _ _ _ _ => trivial
  · rintro i d env s hd ⟨u4, u5, u6, k', rfl, S, hk'⟩
    have hi := (rngL_get hd).2
    refine ⟨_, rfl, ?_⟩
    walk_at "wp"
    refine changed_ok S (by omega) hn1 hn2 hrl hB.len fun d k2 s1 hd S1 hk2 _ => ?_
    walk_at "wp"
    refine is_basis_ok (n := n) hd.1 (by omega) hd.2 fun s2 K2 => ?_
    walk_at "wp"
    refine wp_isBool rfl ?_
    walk_at "wp"
    refine if_ff ?_
    walk_at "wp"
    refine law_is_basis_ok (n := n) hd.1 (by omega) hd.2 fun s3 K3 => ?_
    refine wp_neB ?_
    rw [bne_self_eq_false]
    walk_at "wp"
    exact ⟨_, _, _, k2, rfl, (S1.kp K2).kp K3, by omega⟩
  · rintro env s ⟨u4, u5, u6, k', rfl, S, hk'⟩
    walk_at "wp"
    refine is_basis_ok (d := .tup []) (n := n) rfl (by omega) (fun ds e => by cases e; decide) fun s1 K1 => ?_
    walk_at "wp"
    have e1 : bas n (.tup []) = true := bas_true (rs := []) (IsB.nil n)
    rw [e1]
    refine wp_isBl ?_
    walk_at "wp"
    refine if_tt ?_
    walk_at "wp"
    refine is_basis_ok (n := n) (puD_mat rs) (by omega) (fun ds e => by cases e; rw [List.length_map]; omega) fun s2 K2 => ?_
    walk_at "wp"
    rw [bas_true hB]
    exact wp_isBl rfl
end Lk05

namespace Lk05
open PySem PySem.Spec PyProof.Rows L2 Mir
def ddef (x : Str) (st : Stmt) : He.DefD := ⟨(x, none), x, x, defArgs st, defBody st, defScope st, [], []⟩
def fn : List He.DefD := [ddef "is_integer" st_is_integer, ddef "is_form" st_is_form, ddef "pivot_of" st_pivot_of, ddef "is_basis" st_is_basis, ddef "_law_draw" st__law_draw, ddef "_law_integer" st__law_integer, ddef "_law_plus" st__law_plus, ddef "_law_basis" st__law_basis, ddef "_law_any" st__law_any, ddef "_law_changed" st__law_changed, ddef "_law_is_basis" st__law_is_basis, ddef "law" st_law]
def fa : List He.Fa := [.glo "is_integer", .glo "is_form", .glo "pivot_of", .glo "is_basis", .glo "_law_draw", .glo "_law_integer", .glo "_law_plus", .glo "_law_basis", .glo "_law_any", .glo "_law_changed", .glo "_law_is_basis", .glo "law",
  .free "all", .free "any", .free "bool", .free "enumerate", .free "int", .free "isinstance", .free "len", .free "list", .free "range", .free "set", .free "sorted", .free "tuple", .free "zip"]
abbrev R : PySem.W.OpenRow := PySem.W.OpenLaw.row PySem.Challenge.rw_hushgrain_k05_bases_of_any_object
abbrev hk : PySem.W.Hook := He.hookD 4 fa fn
def ob (s : PySem.W.SharedT) : He.AlD := He.obsDG 4 fa fn (HandSHeadRun.getT s)
theorem ob_eq (s : PySem.W.SharedT) : ob s = hk.obs s.abs := He.obsDG_eq (HandSHeadRun.getT_eq s)
def loose : List PySem.Str := ["is_integer", "is_form", "pivot_of", "is_basis", "_law_draw", "_law_integer", "_law_plus", "_law_basis", "_law_any", "_law_changed", "_law_is_basis"]
theorem run (w : World) : HandSHeadRun.RunEq R (PySem.W.view R.prog [15]) hk ob 800 loose w := by
  intro os
  kernel_rfl
theorem top {K : PySem.W.Frag} {h : Heap} {mg : Str → Option Value} (X : K.In h) (G : h.Ns mainGlobals mg) (c : He.SaysD fa fn K) : Top K mg where
  z_all := He.free_ok X G (c.fact 12 (f := .free "all") rfl)
  z_any := He.free_ok X G (c.fact 13 (f := .free "any") rfl)
  z_bool := He.free_ok X G (c.fact 14 (f := .free "bool") rfl)
  z_enumerate := He.free_ok X G (c.fact 15 (f := .free "enumerate") rfl)
  z_int := He.free_ok X G (c.fact 16 (f := .free "int") rfl)
  z_isinstance := He.free_ok X G (c.fact 17 (f := .free "isinstance") rfl)
  z_len := He.free_ok X G (c.fact 18 (f := .free "len") rfl)
  z_list := He.free_ok X G (c.fact 19 (f := .free "list") rfl)
  z_range := He.free_ok X G (c.fact 20 (f := .free "range") rfl)
  z_set := He.free_ok X G (c.fact 21 (f := .free "set") rfl)
  z_sorted := He.free_ok X G (c.fact 22 (f := .free "sorted") rfl)
  z_tuple := He.free_ok X G (c.fact 23 (f := .free "tuple") rfl)
  z_zip := He.free_ok X G (c.fact 24 (f := .free "zip") rfl)
  d_is_integer := df_mk (c.def_ 0 rfl) (He.glo_ok X G (c.fact 0 (f := .glo "is_integer") rfl)) fun _ _ _ _ _ _ us hl => match us, hl with | [_], _ => rfl
  d_is_form := df_mk (c.def_ 1 rfl) (He.glo_ok X G (c.fact 1 (f := .glo "is_form") rfl)) fun _ _ _ _ _ _ us hl => match us, hl with | [_, _], _ => rfl
  d_pivot_of := df_mk (c.def_ 2 rfl) (He.glo_ok X G (c.fact 2 (f := .glo "pivot_of") rfl)) fun _ _ _ _ _ _ us hl => match us, hl with | [_], _ => rfl
  d_is_basis := df_mk (c.def_ 3 rfl) (He.glo_ok X G (c.fact 3 (f := .glo "is_basis") rfl)) fun _ _ _ _ _ _ us hl => match us, hl with | [_, _], _ => rfl
  d__law_draw := df_mk (c.def_ 4 rfl) (He.glo_ok X G (c.fact 4 (f := .glo "_law_draw") rfl)) fun _ _ _ _ _ _ us hl => match us, hl with | [_, _], _ => rfl
  d__law_integer := df_mk (c.def_ 5 rfl) (He.glo_ok X G (c.fact 5 (f := .glo "_law_integer") rfl)) fun _ _ _ _ _ _ us hl => match us, hl with | [_], _ => rfl
  d__law_plus := df_mk (c.def_ 6 rfl) (He.glo_ok X G (c.fact 6 (f := .glo "_law_plus") rfl)) fun _ _ _ _ _ _ us hl => match us, hl with | [_, _, _], _ => rfl
  d__law_basis := df_mk (c.def_ 7 rfl) (He.glo_ok X G (c.fact 7 (f := .glo "_law_basis") rfl)) fun _ _ _ _ _ _ us hl => match us, hl with | [_, _], _ => rfl
  d__law_any := df_mk (c.def_ 8 rfl) (He.glo_ok X G (c.fact 8 (f := .glo "_law_any") rfl)) fun _ _ _ _ _ _ us hl => match us, hl with | [_], _ => rfl
  d__law_changed := df_mk (c.def_ 9 rfl) (He.glo_ok X G (c.fact 9 (f := .glo "_law_changed") rfl)) fun _ _ _ _ _ _ us hl => match us, hl with | [_, _, _], _ => rfl
  d__law_is_basis := df_mk (c.def_ 10 rfl) (He.glo_ok X G (c.fact 10 (f := .glo "_law_is_basis") rfl)) fun _ _ _ _ _ _ us hl => match us, hl with | [_, _], _ => rfl
  d_law := df_mk (c.def_ 11 rfl) (He.glo_ok X G (c.fact 11 (f := .glo "law") rfl)) fun _ _ _ _ _ _ us hl => match us, hl with | [_], _ => rfl
theorem law_ok {P : Program} {w : World} {K : PySem.W.Frag} {mg : Str → Option Value} (T : Top K mg) {fa : Addr} (hfa : mg ("law" : Str) = some (.ref fa)) :
    ∃ fd : FuncData, (∀ (s : Shared) (v : Value), BindsTo s fd ⟨[v], []⟩ [("script", v)]) ∧ ∀ base : Heap, FnOk P w K mg base CX0 4 fa fd ["script"] (fun vs H Q _ => spM ⟨K, fun _ => 0⟩ 1 m_law vs H Q E0) := by
  obtain ⟨f, fd, F, hm, hb⟩ := T.d_law
  have e := hfa.symm.trans hm
  cases e
  refine ⟨fd, fun s v => ?_, fun base => fn_calm (sp := spM ⟨K, fun _ => 0⟩ 1 m_law) (okL_law T F)⟩
  obtain ⟨_, _, _, _, _, _, _, _, _, rfl, _, _⟩ := F.ex
  exact .of_eq rfl
end Lk05

open PySem PySem.W PySem.Calls PyProof.Rows
theorem PySem.Challenge.cw_hushgrain_k05_bases_of_any_object_holds : PySem.Challenge.rw_hushgrain_k05_bases_of_any_object.Holds := by
  w_on; o_law
  refine HandSHeadRun.head_any (r := OpenLaw.row PySem.Challenge.rw_hushgrain_k05_bases_of_any_object) (q := view (OpenLaw.row PySem.Challenge.rw_hushgrain_k05_bases_of_any_object).prog [15]) (H := Lk05.hk) (ob := Lk05.ob) (M := 800) (loose := Lk05.loose) (d := HandSHeadRun.topDef (OpenLaw.row PySem.Challenge.rw_hushgrain_k05_bases_of_any_object).prog 15) (kwd := []) Lk05.ob_eq
    (by kernel_rfl) (fun s => by kernel_rfl) Lk05.run (by kernel_rfl) (by kernel_rfl) (by kernel_rfl) (by rfl) (by first | assumption | decide +kernel) (by decide +kernel) ⟨rfl, rfl, rfl, rfl, rfl, by decide +kernel⟩ ?hw ?hc
  case hw => w_witness2
  case hc =>
    refine L2.walk_ofE (l := PySem.Challenge.rw_hushgrain_k05_bases_of_any_object) (n := 63) (k := 4) (x := "script") (CX := L2.CX0) rfl (by decide) (by kernel_rfl) ⟨rfl, by decide, by decide⟩ ?F (fun _ _ _ _ z => z)
    intro w mg fa h Y G hmg0
    obtain ⟨K, KX, c⟩ := Y
    have hmg : mg ("law" : PySem.Str) = some (.ref fa) := by
      have e : (HandSHeadRun.topDef (OpenLaw.row PySem.Challenge.rw_hushgrain_k05_bases_of_any_object).prog 15).name = ("law" : PySem.Str) := by kernel_rfl
      rw [← e]
      exact hmg0
    obtain ⟨fd, hb, hF⟩ := Lk05.law_ok (P := (PySem.Challenge.rw_hushgrain_k05_bases_of_any_object).prog) (w := w) (Lk05.top KX G c) hmg
    exact ⟨K, fd, fun vs H Q _ => Mir.spM ⟨K, fun _ => 0⟩ 1 Lk05.m_law vs H Q L2.E0, KX, hb, fun H a ns hl _ hS => Mir.law_sp (C := ⟨K, fun _ => 0⟩) hS (Lk05.law_true ns), fun base _ _ => hF base⟩
