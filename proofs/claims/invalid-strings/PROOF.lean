import PyProof.Rows.All
import Wide.All
import OpenK.AllK
import Wide.FinOn
import HandS.ForMost
import HandS.Exc
import HandS.Lambda
import HandS.Style
import HandS.SetFor
import HandS.Zip
import PyProof.ListStr
import PyProof.Rows.CountFlat
import HandS.IsInst
import HandS.Star
import HandS.TryOnly
import HandS.SetKeys
import HandS.TupSets
import PyProof.Rows.SortShellAny
import HandS.SortInts
import HandS.Conv
import HandS.DictComp
import HandS.ClsMeth
import HandS.More
import HandS.WideBits
import KE.OsArith
import KE.GoesMore
import KE.GoesEnum
import HandS.New
import HandS.SortKw
import HandS.WordsExc
import HandS.ExcInit
import HandS.SetBool
import HandS.Defaults
import PyProof.TupleOfSeq
import HandS.ExcField
import HandS.ExcValue
import HandS.TryMany
import HandS.EndTab
import HandS.ExcIs
import KE.KEqNest
import PyProof.NeKinds
import PyProof.EqKinds
import KE.KExcInit
import KE.KDflt
import PySem.Challenge.RW_threadmark_k22_invalid_strings
set_option Elab.async false
set_option linter.all false
set_option maxRecDepth 100000
set_option maxHeartbeats 4000000
/-! Data over the hand layer: what stands in the heap is told by plain data; a def's reading becomes a reading over data. -/
namespace DL
open PySem L2
/-- data -/
inductive D where
  | non | bl (b : Bool) | int (i : Int) | str (s : Str)
  | lst (xs : List D) | tup (xs : List D) | dk (kvs : List (Key × D)) | obj (C : Addr) (fs : List (Str × D)) | fn (a : Addr) | exc (C : Addr) (fs : List (Str × D)) | tabl (P : Addr) (q : Str)
/-- what may change -/
inductive OD where
  | lst (xs : List D) | dk (kvs : List (Key × D)) | obj (C : Addr) (fs : List (Str × D))
def OD.d : OD → D
  | .lst xs => .lst xs
  | .dk kvs => .dk kvs
  | .obj C fs => .obj C fs
/-- a value: shared for good, made just now, or the thing that a slot owns -/
inductive R where
  | sh (d : D) | ow (o : OD) | al (i : Nat) (o : OD)
def R.look : R → D
  | .sh d => d
  | .ow o => o.d
  | .al _ o => o.d
def R.keep (P : D → Prop) : R → Prop
  | .sh d => P d
  | .ow o => P o.d
  | .al _ _ => False
inductive Sl where
  | un | sh (d : D) | own (q : Option Addr) (o : OD) | bag

/-- the mark of a table of code objects, all of the name q; a table itself is never frozen -/
abbrev tm (q : Str) : HO := .dT [([.inr q], .non), ([.inr q], .non)]
/-- a caught exception at a: its class, its dict -/
def XO (C dd a : Addr) : HO := .ext fun h => ∃ (oe : Obj) (vs : Array Value), h.get? a = some oe ∧ L2.Zc (.ref C) (some dd) oe ∧ oe.data = .fields vs
def WL (K : PySem.W.Frag) (a : Addr) (vs : List V) : Prop := ∃ (o : Obj) (its : Array Value) (n : Nat), K.lookup a = some o ∧ o.cls = .type "list" ∧ o.dict = none ∧ o.data = .seq its n ∧ its.size ≤ sizeLine ∧ Vals vs its.toList
def WT (K : PySem.W.Frag) (a : Addr) (vs : List V) : Prop := ∃ (o : Obj) (its : Array Value) (n : Nat), K.lookup a = some o ∧ o.cls = .type "tuple" ∧ o.data = .seq its n ∧ its.size ≤ sizeLine ∧ Vals vs its.toList
mutual
def Rep (K : PySem.W.Frag) (G : Hp) : D → V → Prop
  | .non, v => v = .non
  | .bl b, v => v = .bl b
  | .int i, v => v = .int i
  | .str s, v => v = .str s
  | .lst xs, v => ∃ a vs, v = .ref a ∧ G a = some (.lst vs) ∧ RepL K G xs vs
  | .tup xs, v => ∃ a vs, v = .ref a ∧ (G a = some (.tup vs) ∨ WT K a vs) ∧ RepL K G xs vs
  | .dk kvs, v => ∃ a vs, v = .ref a ∧ G a = some (.dK vs) ∧ RepK K G kvs vs
  | .obj C fs, v => ∃ a dx vs, v = .ref a ∧ G a = some (.ins C dx vs) ∧ RepF K G fs vs
  | .fn a, v => v = .ref a
  | .exc C fs, v => ∃ a dd vs, v = .ref a ∧ G a = some (XO C dd a) ∧ G dd = some (.xd vs) ∧ RepE K G fs vs
  | .tabl P q, v => (∃ a, v = .ref a) ∧ G P = some (tm q)
def RepL (K : PySem.W.Frag) (G : Hp) : List D → List V → Prop
  | [], vs => vs = []
  | x :: xs, vs => ∃ v r, vs = v :: r ∧ Rep K G x v ∧ RepL K G xs r
def RepK (K : PySem.W.Frag) (G : Hp) : List (Key × D) → List (Key × V) → Prop
  | [], vs => vs = []
  | (k, x) :: xs, vs => ∃ v r, vs = (k, v) :: r ∧ Rep K G x v ∧ RepK K G xs r
def RepF (K : PySem.W.Frag) (G : Hp) : List (Str × D) → List (Str × V) → Prop
  | [], vs => vs = []
  | (k, x) :: xs, vs => ∃ v r, vs = (k, v) :: r ∧ Rep K G x v ∧ RepF K G xs r
def RepE (K : PySem.W.Frag) (G : Hp) : List (Str × D) → List (Str × V) → Prop
  | [], _ => True
  | (k, x) :: xs, vs => (∃ v, vs.lookup k = some v ∧ Rep K G x v) ∧ RepE K G xs vs
end
def RepO (K : PySem.W.Frag) (G : Hp) : OD → HO → Prop
  | .lst xs, o => ∃ vs, o = .lst vs ∧ RepL K G xs vs
  | .dk kvs, o => ∃ vs, o = .dK vs ∧ RepK K G kvs vs
  | .obj C fs, o => ∃ dx vs, o = .ins C dx vs ∧ RepF K G fs vs
def Sub (G G' : Hp) : Prop := ∀ a o, G a = some o → G' a = some o
theorem Sub.refl (G : Hp) : Sub G G := fun _ _ h => h
theorem Sub.trans {G G1 G2 : Hp} (a : Sub G G1) (b : Sub G1 G2) : Sub G G2 := fun x o h => b x o (a x o h)
section
variable {K : PySem.W.Frag} {G G' : Hp}
mutual
theorem Rep.mono (e : Sub G G') : ∀ {d : D} {v : V}, Rep K G d v → Rep K G' d v
  | .non, _, h => h
  | .bl _, _, h => h
  | .int _, _, h => h
  | .str _, _, h => h
  | .lst xs, _, ⟨a, vs, h1, h2, h3⟩ => ⟨a, vs, h1, e _ _ h2, RepL.mono e h3⟩
  | .tup xs, _, ⟨a, vs, h1, h2, h3⟩ => ⟨a, vs, h1, h2.imp (e _ _) id, RepL.mono e h3⟩
  | .dk kvs, _, ⟨a, vs, h1, h2, h3⟩ => ⟨a, vs, h1, e _ _ h2, RepK.mono e h3⟩
  | .obj C fs, _, ⟨a, dx, vs, h1, h2, h3⟩ => ⟨a, dx, vs, h1, e _ _ h2, RepF.mono e h3⟩
  | .fn _, _, h => h
  | .exc C fs, _, ⟨a, dd, vs, h1, h2, h3, h4⟩ => ⟨a, dd, vs, h1, e _ _ h2, e _ _ h3, RepE.mono e h4⟩
  | .tabl P q, _, ⟨h1, h2⟩ => ⟨h1, e _ _ h2⟩
theorem RepL.mono (e : Sub G G') : ∀ {xs : List D} {vs : List V}, RepL K G xs vs → RepL K G' xs vs
  | [], _, h => h
  | x :: xs, _, ⟨v, r, h1, h2, h3⟩ => ⟨v, r, h1, Rep.mono e h2, RepL.mono e h3⟩
theorem RepK.mono (e : Sub G G') : ∀ {xs : List (Key × D)} {vs : List (Key × V)}, RepK K G xs vs → RepK K G' xs vs
  | [], _, h => h
  | (k, x) :: xs, _, ⟨v, r, h1, h2, h3⟩ => ⟨v, r, h1, Rep.mono e h2, RepK.mono e h3⟩
theorem RepF.mono (e : Sub G G') : ∀ {xs : List (Str × D)} {vs : List (Str × V)}, RepF K G xs vs → RepF K G' xs vs
  | [], _, h => h
  | (k, x) :: xs, _, ⟨v, r, h1, h2, h3⟩ => ⟨v, r, h1, Rep.mono e h2, RepF.mono e h3⟩
theorem RepE.mono (e : Sub G G') : ∀ {xs : List (Str × D)} {vs : List (Str × V)}, RepE K G xs vs → RepE K G' xs vs
  | [], _, _ => trivial
  | (k, x) :: xs, _, ⟨⟨v, h1, h2⟩, h3⟩ => ⟨⟨v, h1, Rep.mono e h2⟩, RepE.mono e h3⟩
end
theorem RepO.mono (e : Sub G G') : ∀ {o : OD} {h : HO}, RepO K G o h → RepO K G' o h
  | .lst xs, _, ⟨vs, h1, h2⟩ => ⟨vs, h1, RepL.mono e h2⟩
  | .dk xs, _, ⟨vs, h1, h2⟩ => ⟨vs, h1, RepK.mono e h2⟩
  | .obj C xs, _, ⟨dx, vs, h1, h2⟩ => ⟨dx, vs, h1, RepF.mono e h2⟩
theorem RepL.length : ∀ {xs : List D} {vs : List V}, RepL K G xs vs → vs.length = xs.length
  | [], _, h => by cases h; rfl
  | x :: xs, _, ⟨v, r, h1, h2, h3⟩ => by subst h1; simp [RepL.length h3]
theorem RepL.append : ∀ {xs ys : List D} {vs ws : List V}, RepL K G xs vs → RepL K G ys ws → RepL K G (xs ++ ys) (vs ++ ws)
  | [], _, _, _, h, h' => by cases h; exact h'
  | x :: xs, _, _, _, ⟨v, r, h1, h2, h3⟩, h' => by subst h1; exact ⟨v, _, rfl, h2, RepL.append h3 h'⟩
theorem RepL.get : ∀ {xs : List D} {vs : List V} {i : Nat} {x : D}, RepL K G xs vs → xs[i]? = some x → ∃ v, vs[i]? = some v ∧ Rep K G x v
  | [], _, _, _, _, e => by simp at e
  | y :: xs, _, 0, x, ⟨v, r, h1, h2, h3⟩, e => by simp at e; subst e; subst h1; exact ⟨v, rfl, h2⟩
  | y :: xs, _, i + 1, x, ⟨v, r, h1, h2, h3⟩, e => by
    subst h1
    obtain ⟨w, q1, q2⟩ := RepL.get (i := i) (x := x) h3 (by simpa using e)
    exact ⟨w, by simpa using q1, q2⟩
theorem RepL.getV {xs : List D} {vs : List V} {i : Nat} {v : V} (h : RepL K G xs vs) (e : vs[i]? = some v) : ∃ x, xs[i]? = some x ∧ Rep K G x v := by
  have hl := h.length
  have hi : i < vs.length := (List.getElem?_eq_some_iff.mp e).1
  have hx : xs[i]? = some xs[i] := by simp [show i < xs.length by omega]
  obtain ⟨w, q1, q2⟩ := h.get hx
  rw [e] at q1
  cases q1
  exact ⟨_, hx, q2⟩
theorem RepL.take : ∀ {xs : List D} {vs : List V} (n : Nat), RepL K G xs vs → RepL K G (xs.take n) (vs.take n)
  | _, _, 0, _ => by rw [List.take_zero, List.take_zero]; rfl
  | [], _, n + 1, h => by cases h; simp; rfl
  | x :: xs, _, n + 1, ⟨v, r, h1, h2, h3⟩ => by subst h1; exact ⟨v, _, rfl, h2, RepL.take n h3⟩
theorem RepL.drop : ∀ {xs : List D} {vs : List V} (n : Nat), RepL K G xs vs → RepL K G (xs.drop n) (vs.drop n)
  | _, _, 0, h => by simpa using h
  | [], _, n + 1, h => by cases h; simp; rfl
  | x :: xs, _, n + 1, ⟨v, r, h1, h2, h3⟩ => by subst h1; simpa using RepL.drop n h3
theorem RepL.eraseIdx : ∀ {xs : List D} {vs : List V} (n : Nat), RepL K G xs vs → RepL K G (xs.eraseIdx n) (vs.eraseIdx n)
  | [], _, _, h => by cases h; simp; rfl
  | x :: xs, _, 0, ⟨v, r, h1, h2, h3⟩ => by subst h1; simpa using h3
  | x :: xs, _, n + 1, ⟨v, r, h1, h2, h3⟩ => by subst h1; exact ⟨v, _, rfl, h2, RepL.eraseIdx n h3⟩
theorem RepL.set {x : D} {v : V} (hx : Rep K G x v) : ∀ {xs : List D} {vs : List V} (n : Nat), RepL K G xs vs → RepL K G (xs.set n x) (vs.set n v)
  | [], _, _, h => by cases h; simp; rfl
  | y :: xs, _, 0, ⟨v, r, h1, h2, h3⟩ => by subst h1; exact ⟨_, _, rfl, hx, h3⟩
  | y :: xs, _, n + 1, ⟨v, r, h1, h2, h3⟩ => by subst h1; exact ⟨v, _, rfl, h2, RepL.set hx n h3⟩
theorem RepL.reverse {xs : List D} {vs : List V} (h : RepL K G xs vs) : RepL K G xs.reverse vs.reverse := by
  induction xs generalizing vs with
  | nil => cases h; rfl
  | cons x xs ih =>
    obtain ⟨v, r, h1, h2, h3⟩ := h
    subst h1
    rw [List.reverse_cons, List.reverse_cons]
    exact (ih h3).append ⟨v, [], rfl, h2, rfl⟩
theorem RepL.one {x : D} {v : V} (h : Rep K G x v) : RepL K G [x] [v] := ⟨v, [], rfl, h, rfl⟩
/-- flat lists -/
theorem repL_map {α : Type} {f : α → D} {g : α → V} (h : ∀ x, Rep K G (f x) (g x)) : ∀ xs : List α, RepL K G (xs.map f) (xs.map g)
  | [] => rfl
  | x :: xs => ⟨g x, _, rfl, h x, repL_map h xs⟩
theorem repL_of {α : Type} {f : α → D} {g : α → V} (h : ∀ x v, Rep K G (f x) v → v = g x) : ∀ {xs : List α} {vs : List V}, RepL K G (xs.map f) vs → vs = xs.map g
  | [], _, e => e
  | x :: xs, _, ⟨v, r, h1, h2, h3⟩ => by subst h1; rw [h x v h2, repL_of h h3]; rfl
theorem repL_str {xs : List Str} {vs : List V} (h : RepL K G (xs.map D.str) vs) : vs = xs.map V.str := repL_of (f := D.str) (g := V.str) (fun _ _ e => e) h
theorem repL_int {xs : List Int} {vs : List V} (h : RepL K G (xs.map D.int) vs) : vs = xs.map V.int := repL_of (f := D.int) (g := V.int) (fun _ _ e => e) h
theorem repL_bl {xs : List Bool} {vs : List V} (h : RepL K G (xs.map D.bl) vs) : vs = xs.map V.bl := repL_of (f := D.bl) (g := V.bl) (fun _ _ e => e) h
end
def Tab3 (G : Hp) (q : Str) (ps : Array Value) : Prop := TriplesOk ps.toList ∧ ∀ (pos : Pos) (cv : Value), codeAmong pos ps.toList = some cv → ∃ c, cv = .ref c ∧ G c = some (LamX.CodeO c q)
theorem Tab3.mono {G G' : Hp} {q : Str} {ps : Array Value} (t : Tab3 G q ps) (e : Sub G G') : Tab3 G' q ps := ⟨t.1, fun pos cv h => by obtain ⟨c, h1, h2⟩ := t.2 pos cv h; exact ⟨c, h1, e _ _ h2⟩⟩
/-- no table -/
def NM (G : Hp) (a : Addr) : Prop := ∀ q, G a ≠ some (tm q)
theorem nm_none {G : Hp} {a : Addr} (h : G a = none) : NM G a := fun q z => by rw [h] at z; cases z
theorem nm_dk {G : Hp} {a : Addr} {vs : List (Key × V)} (h : G a = some (.dK vs)) : NM G a := fun q z => by rw [h] at z; cases z
theorem nm_lst {G : Hp} {a : Addr} {vs : List V} (h : G a = some (.lst vs)) : NM G a := fun q z => by rw [h] at z; cases z
theorem NM.back {G G' : Hp} {a : Addr} (n : NM G' a) (e : Sub G G') : NM G a := fun q z => n q (e _ _ z)
/-- what a frozen thing is in the heap: itself; a dict while it is walked is locked; a table, marked -/
def Ex1 (G : Hp) (x : Option HO) (o : HO) : Prop := x = some o ∨ (∃ kvs od, o = .dK kvs ∧ x = some (.frz od o)) ∨ ∃ q ps, o = tm q ∧ x = some (.tbl ps) ∧ Tab3 G q ps
theorem Ex1.mono {G G' : Hp} {x : Option HO} {o : HO} (h : Ex1 G x o) (e : Sub G G') : Ex1 G' x o := h.imp id fun h => h.imp id fun ⟨q, ps, h1, h2, h3⟩ => ⟨q, ps, h1, h2, h3.mono e⟩
theorem Ex1.ne {G : Hp} {o : HO} (h : Ex1 G none o) : False := by
  rcases h with z | ⟨_, _, _, z⟩ | ⟨_, _, _, z, _⟩ <;> cases z
def Ex (G H : Hp) : Prop := ∀ a o, G a = some o → Ex1 G (H a) o
/-- the source of draws -/
def BagOk (G H : Hp) (a : Addr) : Prop := G a = none ∧ ∃ (s : Addr) (ns : List Int) (i : Nat) (n z : Int), H a = some (.lst [.ref s, .int i, .int n, .int z]) ∧ G s = some (.lst (ns.map V.int)) ∧ i ≤ ns.length ∧ ns.length ≤ 63 ∧ 0 ≤ n ∧ 0 ≤ z ∧ z < 2147483549
abbrev Lk := List (Addr × Obj × HO)
structure Stp (b : Option Addr) (L : Lk) (G H G' H' : Hp) : Prop where
  g : Sub G G'
  fr : ∀ a o, b ≠ some a → NM G a → H a = some o → H' a = some o ∨ ∃ od, (a, od, o) ∈ L ∧ H' a = some (.frz od o)
  new : ∀ a, b ≠ some a → H a ≠ none → G a = none → G' a = none
  ex : Ex G' H'
  bag : ∀ a, b = some a → BagOk G H a → BagOk G' H' a
theorem Stp.refl {b : Option Addr} {G H : Hp} (e : Ex G H) : Stp b [] G H G H := ⟨Sub.refl G, fun _ _ _ _ h => .inl h, fun _ _ _ h => h, e, fun _ _ h => h⟩
theorem Stp.fr0 {b : Option Addr} {G H G' H' : Hp} (s : Stp b [] G H G' H') {a : Addr} {o : HO} (hb : b ≠ some a) (h : H a = some o) (nm : NM G a := by first | assumption | exact DL.nm_none (by assumption) | exact DL.nm_dk (by assumption) | exact DL.nm_lst (by assumption)) : H' a = some o := by
  rcases s.fr a o hb nm h with q | ⟨od, m, _⟩
  · exact q
  · cases m
theorem tm_dk {q : Str} {kvs : List (Key × V)} : tm q ≠ .dK kvs := fun z => by cases z
theorem tm_inj {q q' : Str} (h : tm q = tm q') : q = q' := by cases h; rfl
theorem Stp.nm {b : Option Addr} {L : Lk} {G H G' H' : Hp} (s : Stp b L G H G' H') {a : Addr} (hb : b ≠ some a) (nm : NM G a) (h : H a ≠ none) : NM G' a := by
  cases q : G a with
  | none => exact nm_none (s.new a hb h q)
  | some o =>
    intro t z
    rw [s.g _ _ q] at z
    cases z
    exact nm t q
theorem Stp.trans {b : Option Addr} {L : Lk} {G H G1 H1 G2 H2 : Hp} (s : Stp b L G H G1 H1) (t : Stp b [] G1 H1 G2 H2) : Stp b L G H G2 H2 where
  g := s.g.trans t.g
  fr := fun a o hb nm h => by
    have nm1 : NM G1 a := s.nm hb nm (by rw [h]; simp)
    rcases s.fr a o hb nm h with q | ⟨od, m, q⟩
    · exact .inl (t.fr0 hb q)
    · exact .inr ⟨od, m, t.fr0 hb q⟩
  new := fun a hb h hg => by
    refine t.new a hb ?_ (s.new a hb h hg)
    cases q : H a with
    | none => exact absurd q h
    | some o =>
      rcases s.fr a o hb (nm_none hg) q with q | ⟨od, m, q⟩ <;> rw [q] <;> exact Option.some_ne_none _
  ex := t.ex
  bag := fun a hb h => t.bag a hb (s.bag a hb h)
/-- a new frozen object -/
theorem Stp.laid {b : Option Addr} {G H : Hp} {p : Addr} {o : HO} (e : Ex G H) (hp : H p = none) : Stp b [] G H (upd G p o) (upd H p o) := by
  have gp : G p = none := by
    cases q : G p with
    | none => rfl
    | some u => have z := e p u q; rw [hp] at z; exact z.ne.elim
  have sub : Sub G (upd G p o) := fun a u h => by rw [upd_ne (ne_of_none h gp)]; exact h
  refine ⟨sub, fun a u _ _ h => .inl (by rw [upd_ne (ne_of_none h hp)]; exact h), fun a _ h hg => ?_, fun a u h => ?_, fun a _ ⟨h1, s, ns, i, n, z, h2, h3, h4⟩ => ?_⟩
  · rw [upd_ne (fun z => h (by rw [z]; exact hp))]; exact hg
  · by_cases z : a = p
    · subst z; rw [upd_same] at h ⊢; exact .inl h
    · rw [upd_ne z] at h ⊢; exact (e a u h).mono sub
  · have na : a ≠ p := ne_of_none h2 hp
    exact ⟨by rw [upd_ne na]; exact h1, s, ns, i, n, z, by rw [upd_ne na]; exact h2, by rw [upd_ne (ne_of_none h3 gp)]; exact h3, h4⟩
theorem Ex.old {G H : Hp} (e : Ex G H) (a : Addr) (o : HO) (h : G a = some o) (n : ∀ q, o ≠ tm q := by intro q z; cases z) : H a = some o ∨ ∃ kvs od, o = .dK kvs ∧ H a = some (.frz od o) := by
  rcases e a o h with z | z | ⟨q, _, z, _⟩
  · exact .inl z
  · exact .inr z
  · exact (n q z).elim
theorem Ex.nm_frz {G H : Hp} (e : Ex G H) {a : Addr} {od : Obj} {u : HO} (h : H a = some (.frz od u)) : NM G a := fun q z => by
  rcases e a _ z with y | ⟨_, _, y, _⟩ | ⟨_, _, _, y, _⟩
  · rw [h] at y; cases y
  · cases y
  · rw [h] at y; cases y
theorem Ex.none {G H : Hp} (e : Ex G H) {p : Addr} (hp : H p = none) : G p = none := by
  cases q : G p with
  | none => rfl
  | some u => have z := e p u q; rw [hp] at z; exact z.ne.elim
/-- a new object, not frozen -/
theorem Stp.made {b : Option Addr} {G H : Hp} {p : Addr} {o : HO} (e : Ex G H) (hp : H p = none) : Stp b [] G H G (upd H p o) := by
  have gp : G p = none := e.none hp
  refine ⟨Sub.refl G, fun a u _ _ h => .inl (by rw [upd_ne (ne_of_none h hp)]; exact h), fun a _ h hg => hg, fun a u h => ?_, fun a _ ⟨h1, s, ns, i, n, z, h2, h3⟩ => ?_⟩
  · rw [upd_ne (ne_of_none h gp)]; exact e a u h
  · exact ⟨h1, s, ns, i, n, z, by rw [upd_ne (ne_of_none h2 hp)]; exact h2, h3⟩
/-- a def without the source, called where there is one -/
theorem Stp.some {b : Option Addr} {G H G' H' : Hp} (s : Stp none [] G H G' H') : Stp b [] G H G' H' := by
  refine ⟨s.g, fun a o _ nm h => s.fr a o (by simp) nm h, fun a _ h hg => s.new a (by simp) h hg, s.ex, fun a _ ⟨h1, q, ns, i, n, z, h2, h3, h4⟩ => ?_⟩
  exact ⟨s.new a (by simp) (by rw [h2]; simp) h1, q, ns, i, n, z, s.fr0 (by simp) h2, s.g _ _ h3, h4⟩
/-- an object made since is frozen -/
theorem Stp.freeze {b : Option Addr} {G H G' H' : Hp} {p : Addr} {o : HO} (s : Stp b [] G H G' H') (hb : b ≠ .some p) (hp : H p = none) (hg : G' p = none) (h : H' p = .some o) : Stp b [] G H (upd G' p o) H' := by
  have sub : Sub G' (upd G' p o) := fun a u q => by rw [upd_ne (ne_of_none q hg)]; exact q
  refine ⟨s.g.trans sub, s.fr, fun a hb' h' hg' => ?_, fun a u q => ?_, fun a ha h' => ?_⟩
  · rw [upd_ne (fun z => h' (by rw [z]; exact hp))]; exact s.new a hb' h' hg'
  · by_cases z : a = p
    · subst z; rw [upd_same] at q; cases q; exact .inl h
    · rw [upd_ne z] at q; exact (s.ex a u q).mono sub
  · obtain ⟨h1, q, ns, i, n, z, h2, h3, h4⟩ := s.bag a ha h'
    exact ⟨by rw [upd_ne (fun z => hb (by rw [← z]; exact ha))]; exact h1, q, ns, i, n, z, h2, sub _ _ h3, h4⟩

/-- what a slot holds -/
def SlotOk (K : PySem.W.Frag) (b : Option Addr) (H0 G H : Hp) (s : Option (Option V)) : Sl → Prop
  | .un => True
  | .sh d => ∃ v, s = some (some v) ∧ Rep K G d v
  | .own q o => ∃ a ho, s = some (some (.ref a)) ∧ b ≠ some a ∧ H0 a = none ∧ G a = none ∧ H a = some ho ∧ RepO K G o ho ∧ ∀ a0, q = some a0 → a = a0
  | .bag => ∃ a, b = some a ∧ s = some (some (.ref a))
structure Good0 (K : PySem.W.Frag) (b : Option Addr) (L : Lk) (G0 H0 G H : Hp) (σ : L2.St) (e : List Sl) : Prop where
  stp : Stp b L G0 H0 G H
  slot : ∀ (i : Nat) (x : Sl), e[i]? = some x → SlotOk K b H0 G H σ[i]? x
  inj : ∀ (i j : Nat) (q q' : Option Addr) (o o' : OD) (a : Addr), e[i]? = some (.own q o) → e[j]? = some (.own q' o') → σ[i]? = some (some (.ref a)) → σ[j]? = some (some (.ref a)) → i = j
  bag : ∀ a, b = some a → BagOk G H a
  lk : ∀ a od u, (a, od, u) ∈ L → H a = some (.frz od u)
  len : e.length = σ.length
theorem Good0.ex {K : PySem.W.Frag} {b : Option Addr} {L : Lk} {G0 H0 G H : Hp} {σ : L2.St} {e : List Sl} (g : Good0 K b L G0 H0 G H σ e) : Ex G H := g.stp.ex
theorem Good0.step {K : PySem.W.Frag} {b : Option Addr} {L : Lk} {G0 H0 G H G' H' : Hp} {σ : L2.St} {e : List Sl} (g : Good0 K b L G0 H0 G H σ e) (s : Stp b [] G H G' H') : Good0 K b L G0 H0 G' H' σ e where
  stp := g.stp.trans s
  slot := fun i x hx => by
    have q := g.slot i x hx
    cases x with
    | un => trivial
    | sh d => obtain ⟨v, h1, h2⟩ := q; exact ⟨v, h1, h2.mono s.g⟩
    | own t o =>
      obtain ⟨a, ho, h1, h2, h3, h4, h5, h6, h7⟩ := q
      exact ⟨a, ho, h1, h2, h3, s.new a h2 (by rw [h5]; simp) h4, s.fr0 h2 h5, h6.mono s.g, h7⟩
    | bag => exact q
  inj := g.inj
  bag := fun a ha => s.bag a ha (g.bag a ha)
  lk := fun a od u m => by
    refine s.fr0 (fun z => ?_) (g.lk a od u m) (g.ex.nm_frz (g.lk a od u m))
    obtain ⟨_, _, _, _, _, _, h, _⟩ := g.bag a z
    rw [g.lk a od u m] at h
    cases h
  len := g.len
/-- an exception's class and fields -/
abbrev XD := Addr × List (Str × D)
def XRep (K : PySem.W.Frag) (G H : Hp) (x : XD) (cls : Value) (d : Option Addr) : Prop := cls = .ref x.1 ∧ ∃ (dd : Addr) (fs : List (Str × V)), d = some dd ∧ H dd = some (.xd fs) ∧ G dd = some (.xd fs) ∧ ∀ f y, x.2.lookup f = some y → ∃ v, fs.lookup f = some v ∧ Rep K G y v
/-- the ground: where the source of draws stands; what an exception that gets out must be -/
structure Bg where
  a : Option Addr
  W : L2.WX
  xp : XD → Prop
instance : Coe Bg (Option Addr) := ⟨Bg.a⟩
abbrev bN (a : Option Addr) : Bg := ⟨a, fun _ _ _ _ => True, fun _ => False⟩
def XL (K : PySem.W.Frag) (b : Bg) (L : Lk) (G0 H0 : Hp) : Prop := (L ≠ [] → ∀ x, ¬ b.xp x) ∧ (L = [] → ∀ (x : XD) (cls : Value) (d : Option Addr) (σ : L2.St) (G' H' : Hp), Stp b.a [] G0 H0 G' H' → XRep K G' H' x cls d → b.xp x → b.W cls d σ H')
theorem xl_n {K : PySem.W.Frag} {a : Option Addr} {L : Lk} {G0 H0 : Hp} : XL K (bN a) L G0 H0 := ⟨fun _ _ h => h, fun _ _ _ _ _ _ _ _ _ h => h.elim⟩
/-- nothing gets out -/
abbrev Bg.q (b : Bg) : Bg := ⟨b.a, b.W, fun _ => False⟩
theorem xl_q {K : PySem.W.Frag} {b : Bg} {L : Lk} {G0 H0 : Hp} : XL K b.q L G0 H0 := ⟨fun _ _ h => h, fun _ _ _ _ _ _ _ _ _ h => h.elim⟩
structure Good (K : PySem.W.Frag) (b : Bg) (L : Lk) (G0 H0 G H : Hp) (σ : L2.St) (e : List Sl) : Prop extends Good0 K b.a L G0 H0 G H σ e where
  xl : XL K b L G0 H0
theorem Good.ex {K : PySem.W.Frag} {b : Bg} {L : Lk} {G0 H0 G H : Hp} {σ : L2.St} {e : List Sl} (g : Good K b L G0 H0 G H σ e) : Ex G H := g.stp.ex
theorem Good.step {K : PySem.W.Frag} {b : Bg} {L : Lk} {G0 H0 G H G' H' : Hp} {σ : L2.St} {e : List Sl} (g : Good K b L G0 H0 G H σ e) (s : Stp b [] G H G' H') : Good K b L G0 H0 G' H' σ e := ⟨g.toGood0.step s, g.xl⟩
/-- a value at hand; Hs: the heap ahead of it -/
def RepR (K : PySem.W.Frag) (b : Option Addr) (Hs : Hp) (σ : L2.St) (e : List Sl) (G H : Hp) : R → V → Prop
  | .sh d, v => Rep K G d v
  | .ow o, v => ∃ a ho, v = .ref a ∧ b ≠ some a ∧ Hs a = none ∧ G a = none ∧ H a = some ho ∧ RepO K G o ho
  | .al i o, v => (∃ q, e[i]? = some (.own q o)) ∧ σ[i]? = some (some v)
theorem RepR.step {K : PySem.W.Frag} {b : Option Addr} {Hs G H G' H' : Hp} {σ : L2.St} {e : List Sl} {r : R} {v : V} (h : RepR K b Hs σ e G H r v) (s : Stp b [] G H G' H') : RepR K b Hs σ e G' H' r v := by
  cases r with
  | sh d => exact Rep.mono s.g h
  | ow o =>
    obtain ⟨a, ho, h1, h2, h3, h4, h5, h6⟩ := h
    exact ⟨a, ho, h1, h2, h3, s.new a h2 (by rw [h5]; simp) h4, s.fr0 h2 h5, h6.mono s.g⟩
  | al i o => exact h
/-- fresh later is fresh before -/
theorem RepR.back {K : PySem.W.Frag} {b : Option Addr} {Hs Hm G H : Hp} {σ : L2.St} {e : List Sl} {r : R} {v : V} (h : RepR K b Hm σ e G H r v) (f : ∀ a, b ≠ some a → Hm a = none → Hs a = none) : RepR K b Hs σ e G H r v := by
  cases r with
  | sh d => exact h
  | ow o =>
    obtain ⟨a, ho, h1, h2, h3, h4⟩ := h
    exact ⟨a, ho, h1, h2, f a h2 h3, h4⟩
  | al i o => exact h
theorem Stp.backL {b : Option Addr} {L : Lk} {G H G' H' : Hp} (s : Stp b L G H G' H') (a : Addr) (hb : b ≠ .some a) (h : H' a = none) : H a = none := by
  cases q : H a with
  | none => rfl
  | some o =>
    cases y : G a with
    | none => rcases s.fr a o hb (nm_none y) q with z | ⟨_, _, z⟩ <;> rw [h] at z <;> cases z
    | some u => have z := s.ex a u (s.g _ _ y); rw [h] at z; exact z.ne.elim
theorem Stp.back {b : Option Addr} {G H G' H' : Hp} (s : Stp b [] G H G' H') (a : Addr) (hb : b ≠ .some a) (h : H' a = none) : H a = none := s.backL a hb h
/-- what may be read at a value: its own object by the heap, what it holds by the frozen part -/
def Top (K : PySem.W.Frag) (G H : Hp) : D → V → Prop
  | .non, v => v = .non
  | .bl b, v => v = .bl b
  | .int i, v => v = .int i
  | .str s, v => v = .str s
  | .lst xs, v => ∃ a vs, v = .ref a ∧ H a = some (.lst vs) ∧ RepL K G xs vs
  | .tup xs, v => ∃ a vs, v = .ref a ∧ SqT K H a vs ∧ RepL K G xs vs
  | .dk kvs, v => ∃ a vs, v = .ref a ∧ Rd H a (.dK vs) ∧ RepK K G kvs vs
  | .obj C fs, v => ∃ a dx vs, v = .ref a ∧ H a = some (.ins C dx vs) ∧ RepF K G fs vs
  | .fn a, v => v = .ref a
  | .exc C fs, v => ∃ a dd vs, v = .ref a ∧ H a = some (XO C dd a) ∧ H dd = some (.xd vs) ∧ RepE K G fs vs
  | .tabl P q, v => (∃ a, v = .ref a) ∧ G P = some (tm q)
theorem Rep.top {K : PySem.W.Frag} {G H : Hp} (e : Ex G H) : ∀ {d : D} {v : V}, Rep K G d v → Top K G H d v
  | .non, _, h => h
  | .bl _, _, h => h
  | .int _, _, h => h
  | .str _, _, h => h
  | .lst xs, _, ⟨a, vs, h1, h2, h3⟩ => by
    refine ⟨a, vs, h1, ?_, h3⟩
    rcases e _ _ h2 with z | ⟨_, _, z, _⟩ | ⟨_, _, z, _⟩
    · exact z
    · cases z
    · cases z
  | .tup xs, _, ⟨a, vs, h1, h2, h3⟩ => by
    refine ⟨a, vs, h1, ?_, h3⟩
    rcases h2 with h2 | h2
    · rcases e _ _ h2 with z | ⟨_, _, z, _⟩ | ⟨_, _, z, _⟩
      · exact .inl (.inl z)
      · cases z
      · cases z
    · exact .inr h2
  | .dk kvs, _, ⟨a, vs, h1, h2, h3⟩ => by
    refine ⟨a, vs, h1, ?_, h3⟩
    rcases e _ _ h2 with z | ⟨_, od, z, q⟩ | ⟨_, _, z, _⟩
    · exact .inl z
    · exact .inr ⟨od, q⟩
    · cases z
  | .obj C fs, _, ⟨a, dx, vs, h1, h2, h3⟩ => by
    refine ⟨a, dx, vs, h1, ?_, h3⟩
    rcases e _ _ h2 with z | ⟨_, _, z, _⟩ | ⟨_, _, z, _⟩
    · exact z
    · cases z
    · cases z
  | .fn _, _, h => h
  | .exc C fs, _, ⟨a, dd, vs, h1, h2, h3, h4⟩ => by
    refine ⟨a, dd, vs, h1, ?_, ?_, h4⟩
    · rcases e _ _ h2 with z | ⟨_, _, z, _⟩ | ⟨_, _, z, _⟩
      · exact z
      · cases z
      · cases z
    · rcases e _ _ h3 with z | ⟨_, _, z, _⟩ | ⟨_, _, z, _⟩
      · exact z
      · cases z
      · cases z
  | .tabl P q, _, h => h
theorem RepO.top {K : PySem.W.Frag} {G H : Hp} {a : Addr} {ho : HO} (h : H a = some ho) : ∀ {o : OD}, RepO K G o ho → Top K G H o.d (.ref a)
  | .lst xs, ⟨vs, h1, h2⟩ => by subst h1; exact ⟨a, vs, rfl, h, h2⟩
  | .dk xs, ⟨vs, h1, h2⟩ => by subst h1; exact ⟨a, vs, rfl, .inl h, h2⟩
  | .obj C xs, ⟨dx, vs, h1, h2⟩ => by subst h1; exact ⟨a, dx, vs, rfl, h, h2⟩
theorem RepR.top {K : PySem.W.Frag} {b : Bg} {L : Lk} {G0 H0 Hs G H : Hp} {σ : L2.St} {e : List Sl} {r : R} {v : V} (h : RepR K b Hs σ e G H r v) (g : Good K b L G0 H0 G H σ e) : Top K G H r.look v := by
  cases r with
  | sh d => exact Rep.top g.ex h
  | ow o => obtain ⟨a, ho, rfl, _, _, _, h5, h6⟩ := h; exact h6.top h5
  | al i o =>
    obtain ⟨⟨_, h1⟩, h2⟩ := h
    obtain ⟨a, ho, q1, _, _, _, q5, q6, _⟩ := g.slot i _ h1
    rw [h2] at q1
    cases q1
    exact q6.top q5
/-- frozen for good -/
theorem RepO.rep {K : PySem.W.Frag} {G : Hp} {a : Addr} {ho : HO} (hg : G a = none) : ∀ {o : OD}, RepO K G o ho → Rep K (upd G a ho) o.d (.ref a) := by
  have sub : Sub G (upd G a ho) := fun x u q => by rw [upd_ne (ne_of_none q hg)]; exact q
  intro o h
  cases o with
  | lst xs => obtain ⟨vs, rfl, h2⟩ := h; exact ⟨a, vs, rfl, upd_same, h2.mono sub⟩
  | dk xs => obtain ⟨vs, rfl, h2⟩ := h; exact ⟨a, vs, rfl, upd_same, h2.mono sub⟩
  | obj C xs => obtain ⟨dx, vs, rfl, h2⟩ := h; exact ⟨a, dx, vs, rfl, upd_same, h2.mono sub⟩
theorem RepR.freeze {K : PySem.W.Frag} {b : Option Addr} {Hs Gs G H : Hp} {σ : L2.St} {e : List Sl} {r : R} {v : V} {P : D → Prop} (h : RepR K b Hs σ e G H r v) (s : Stp b [] Gs Hs G H) (k : r.keep P) :
    ∃ d G', Stp b [] Gs Hs G' H ∧ Rep K G' d v ∧ P d := by
  cases r with
  | sh d => exact ⟨d, G, s, h, k⟩
  | ow o =>
    obtain ⟨a, ho, rfl, h2, h3, h4, h5, h6⟩ := h
    have z := s.freeze h2 h3 h4 h5
    exact ⟨o.d, upd G a ho, z, h6.rep h4, k⟩
  | al i o => exact k.elim
theorem Good.toQ {K : PySem.W.Frag} {b : Bg} {L : Lk} {G0 H0 G H : Hp} {σ : L2.St} {e : List Sl} (g : Good K b L G0 H0 G H σ e) : Good K b.q L G0 H0 G H σ e := ⟨g.toGood0, xl_q⟩
theorem Good.ofQ {K : PySem.W.Frag} {b : Bg} {L : Lk} {G0 H0 G H : Hp} {σ : L2.St} {e : List Sl} (x : XL K b L G0 H0) (g : Good K b.q L G0 H0 G H σ e) : Good K b L G0 H0 G H σ e := ⟨g.toGood0, x⟩
end DL
namespace DL
open PySem L2
abbrev DE := List Sl → (R → Prop) → Prop
abbrev DT := List Sl → (Bool → Prop) → Prop
abbrev DA := List Sl → (List D → Prop) → Prop
def nth : List Sl → Nat → Sl
  | [], _ => .un
  | x :: _, 0 => x
  | _ :: xs, i + 1 => nth xs i
theorem nth_get : ∀ {e : List Sl} {i : Nat} {x : Sl}, nth e i = x → x ≠ .un → e[i]? = some x
  | [], _, _, h, n => absurd h.symm n
  | y :: _, 0, _, h, _ => by subst h; rfl
  | _ :: xs, i + 1, x, h, n => by simpa using nth_get (e := xs) h n
def LE (K : PySem.W.Frag) (b : Bg) (t : TE) (u : DE) : Prop := ∀ (L : Lk) (G0 H0 G H : Hp) (σ : L2.St) (e : List Sl) (P : R → Prop) (Q : VK), Good K b L G0 H0 G H σ e → u e P →
  (∀ v r G' H', Stp b [] G H G' H' → RepR K b H σ e G' H' r v → P r → Q v H') → t σ H Q
def LT (K : PySem.W.Frag) (b : Bg) (t : TT) (u : DT) : Prop := ∀ (L : Lk) (G0 H0 G H : Hp) (σ : L2.St) (e : List Sl) (P : Bool → Prop) (Q : Bool → Hp → Prop), Good K b L G0 H0 G H σ e → u e P →
  (∀ c G' H', Stp b [] G H G' H' → P c → Q c H') → t σ H Q
def LA (K : PySem.W.Frag) (b : Bg) (t : TA) (u : DA) : Prop := ∀ (L : Lk) (G0 H0 G H : Hp) (σ : L2.St) (e : List Sl) (P : List D → Prop) (Q : List V → Hp → Prop), Good K b L G0 H0 G H σ e → u e P →
  (∀ vs ds G' H', Stp b [] G H G' H' → RepL K G' ds vs → P ds → Q vs H') → t σ H Q
structure PD (X : Cx) (b : Bg) (e : Expr) (u : DE) : Prop where
  ex : ∃ t, PE X e t ∧ LE X.K b t u
structure PDT (X : Cx) (b : Bg) (e : Expr) (u : DT) : Prop where
  ex : ∃ t, PT X e t ∧ LT X.K b t u
structure PDW (X : Cx) (b : Bg) (e : Expr) (u : DT) : Prop where
  ex : ∃ t, PW X e t ∧ LT X.K b t u
structure PDA (X : Cx) (b : Bg) (es : List Expr) (u : DA) : Prop where
  ex : ∃ t, PA X es t ∧ LA X.K b t u
section
variable {X : Cx} {b : Bg} {K : PySem.W.Frag}
/-! ### names, constants -/
def slV (i : Nat) (P : R → Prop) : Sl → Prop
  | .sh d => P (.sh d)
  | .own _ o => P (.al i o)
  | _ => False
def uVar (i : Nat) : DE := fun e P => slV i P (nth e i)
theorem le_var {i : Nat} : LE K b (tVar i) (uVar i) := by
  intro L G0 H0 G H σ e P Q g h k
  unfold uVar at h
  cases hx : nth e i with
  | un => rw [hx] at h; exact h.elim
  | bag => rw [hx] at h; exact h.elim
  | sh d =>
    rw [hx] at h
    obtain ⟨v, h1, h2⟩ := g.slot i _ (nth_get hx (by simp))
    exact ⟨v, h1, k v (.sh d) G H (Stp.refl g.ex) h2 h⟩
  | own t o =>
    rw [hx] at h
    have q := nth_get hx (by simp)
    obtain ⟨a, ho, h1, h2⟩ := g.slot i _ q
    exact ⟨_, h1, k _ (.al i o) G H (Stp.refl g.ex) ⟨⟨t, q⟩, h1⟩ h⟩
theorem d_var (i : Nat) {x : Str} {pos : Pos} (hN : X.N[i]? = some x := by rfl) (hv : Vis X.env.scope x := by first | exact Or.inl rfl | exact Or.inr (Or.inl rfl) | exact Or.inr (Or.inr rfl)) (hd : (x == ("__debug__" : Str)) = false := by decide)
    (hcd : (x == ("__classdict__" : Str)) = false := by decide) : PD X b (.Name x pos) (uVar i) := ⟨_, pe_var hN hv hd hcd, le_var⟩
def uC (d : D) : DE := fun _ P => P (.sh d)
theorem le_c {v : V} {d : D} (h : ∀ G, Rep K G d v) : LE K b (tC v) (uC d) := fun L G0 H0 G H σ e P Q g p k => k v (.sh d) G H (Stp.refl g.ex) (h G) p
theorem d_int {i j pos} : PD X b (.Constant (.int i) j pos) (uC (.int i)) := ⟨_, pe_int, le_c fun _ => rfl⟩
theorem d_bl {i j pos} : PD X b (.Constant (.bool i) j pos) (uC (.bl i)) := ⟨_, pe_bl, le_c fun _ => rfl⟩
theorem d_non {j pos} : PD X b (.Constant .none j pos) (uC .non) := ⟨_, pe_non, le_c fun _ => rfl⟩
theorem d_str {x j pos} : PD X b (.Constant (.str x) j pos) (uC (.str x)) := ⟨_, pe_str, le_c fun _ => rfl⟩
/-- a constant of the module -/
theorem d_glob {x : Str} {v : V} {d : D} {u : Value} {pos : Pos} (hm : X.mg x = some u) (r : RelV v u) (hr : ∀ G, Rep X.K G d v) (hg : Gl X x := by rfl) (hd : (x == ("__debug__" : Str)) = false := by decide) : PD X b (.Name x pos) (uC d) :=
  ⟨_, pe_glob hg hm r hd, le_c hr⟩

/-! ### operations on two values, looked at -/
def LO (K : PySem.W.Frag) (r : R2) (f : D → D → (R → Prop) → Prop) : Prop := ∀ (b : Bg) (L : Lk) (G0 H0 G H : Hp) (σ : L2.St) (e : List Sl) (d1 d2 : D) (x y : V) (P : R → Prop) (Q : VK), Good K b L G0 H0 G H σ e →
  Top K G H d1 x → Top K G H d2 y → f d1 d2 P → (∀ v r G' H', Stp b [] G H G' H' → RepR K b H σ e G' H' r v → P r → Q v H') → r x y H Q
theorem LO.flat {r : R2} {f : D → D → (R → Prop) → Prop} (h : ∀ (G H : Hp) (d1 d2 : D) (x y : V) (P : R → Prop) (Q : VK), Ex G H → Top K G H d1 x → Top K G H d2 y → f d1 d2 P → (∀ v d, Rep K G d v → P (.sh d) → Q v H) → r x y H Q) : LO K r f :=
  fun b L G0 H0 G H σ e d1 d2 x y P Q g h1 h2 hf k => h G H d1 d2 x y P Q g.ex h1 h2 hf fun v d hr hp => k v (.sh d) G H (Stp.refl g.ex) hr hp
theorem LO.or {r r' : R2} {f f' : D → D → (R → Prop) → Prop} (h : LO K r f) (h' : LO K r' f') : LO K (fun x y H Q => r x y H Q ∨ r' x y H Q) (fun d1 d2 P => f d1 d2 P ∨ f' d1 d2 P) :=
  fun b L G0 H0 G H σ e d1 d2 x y P Q g h1 h2 hf k => hf.imp (fun z => h b L G0 H0 G H σ e d1 d2 x y P Q g h1 h2 z k) (fun z => h' b L G0 H0 G H σ e d1 d2 x y P Q g h1 h2 z k)
theorem LO.imp {r : R2} {f f' : D → D → (R → Prop) → Prop} (h : LO K r f) (i : ∀ d1 d2 P, f' d1 d2 P → f d1 d2 P) : LO K r f' :=
  fun b L G0 H0 G H σ e d1 d2 x y P Q g h1 h2 hf k => h b L G0 H0 G H σ e d1 d2 x y P Q g h1 h2 (i _ _ _ hf) k
theorem opR_or {f : Value → Value → Sem Value} {r r' : R2} (h : OpR X f r) (h' : OpR X f r') : OpR X f (fun x y H Q => r x y H Q ∨ r' x y H Q) := by
  intro pins s σ H x y v u Q I rx ry q
  rcases q with q | q
  · exact h pins s σ H x y v u Q I rx ry q
  · exact h' pins s σ H x y v u Q I rx ry q
/-- bag is not fresh -/
theorem Good.nb {L : Lk} {G0 H0 G H : Hp} {σ : L2.St} {e : List Sl} (g : Good K b L G0 H0 G H σ e) {p : Addr} (hp : H p = none) : b.a ≠ some p := fun z => by
  obtain ⟨_, _, _, _, _, _, h, _⟩ := g.bag p z
  rw [hp] at h; cases h
/-- a new list, left to whoever takes it -/
theorem Good.newL {L : Lk} {G0 H0 G H : Hp} {σ : L2.St} {e : List Sl} {P : R → Prop} {Q : VK} (g : Good K b L G0 H0 G H σ e) {xs : List D} {vs : List V} (hr : RepL K G xs vs) (hp : P (.ow (.lst xs)))
    (k : ∀ v r G' H', Stp b [] G H G' H' → RepR K b H σ e G' H' r v → P r → Q v H') : ∀ p, H p = none → Q (.ref p) (upd H p (.lst vs)) := fun p np =>
  k _ (.ow (.lst xs)) G _ (Stp.made g.ex np) ⟨p, _, rfl, g.nb np, np, g.ex.none np, upd_same, vs, rfl, hr⟩ hp
theorem Good.newK {L : Lk} {G0 H0 G H : Hp} {σ : L2.St} {e : List Sl} {P : R → Prop} {Q : VK} (g : Good K b L G0 H0 G H σ e) {xs : List (Key × D)} {vs : List (Key × V)} (hr : RepK K G xs vs) (hp : P (.ow (.dk xs)))
    (k : ∀ v r G' H', Stp b [] G H G' H' → RepR K b H σ e G' H' r v → P r → Q v H') : ∀ p, H p = none → Q (.ref p) (upd H p (.dK vs)) := fun p np =>
  k _ (.ow (.dk xs)) G _ (Stp.made g.ex np) ⟨p, _, rfl, g.nb np, np, g.ex.none np, upd_same, vs, rfl, hr⟩ hp
theorem sub_upd {G : Hp} {p : Addr} {o : HO} (h : G p = none) : Sub G (upd G p o) := fun a u q => by rw [upd_ne (ne_of_none q h)]; exact q
theorem Good.newT {L : Lk} {G0 H0 G H : Hp} {σ : L2.St} {e : List Sl} {P : R → Prop} {Q : VK} (g : Good K b L G0 H0 G H σ e) {xs : List D} {vs : List V} (hr : RepL K G xs vs) (hp : P (.sh (.tup xs)))
    (k : ∀ v r G' H', Stp b [] G H G' H' → RepR K b H σ e G' H' r v → P r → Q v H') : ∀ p, H p = none → Q (.ref p) (upd H p (.tup vs)) := fun p np =>
  k _ (.sh (.tup xs)) _ _ (Stp.laid g.ex np) ⟨p, vs, rfl, .inl upd_same, hr.mono (sub_upd (g.ex.none np))⟩ hp
def uBin (f : D → D → (R → Prop) → Prop) (u1 u2 : DE) : DE := fun e P => u1 e fun r1 => u2 e fun r2 => f r1.look r2.look P
theorem le_bin {r : R2} {f : D → D → (R → Prop) → Prop} {t1 t2 : TE} {u1 u2 : DE} (h : LO K r f) (h1 : LE K b t1 u1) (h2 : LE K b t2 u2) : LE K b (tOp r t1 t2) (uBin f u1 u2) := by
  intro L G0 H0 G H σ e P Q g hu k
  refine h1 L G0 H0 G H σ e _ _ g hu fun v1 r1 G1 H1 s1 hr1 q1 => ?_
  have g1 := g.step s1
  refine h2 L G0 H0 G1 H1 σ e _ _ g1 q1 fun v2 r2 G2 H2 s2 hr2 q2 => ?_
  have g2 := g1.step s2
  refine h b L G0 H0 G2 H2 σ e _ _ v1 v2 P Q g2 ((hr1.step s2).top g2) (hr2.top g2) q2 fun v r G' H' s hr hp => ?_
  exact k v r G' H' ((s1.trans s2).trans s) (hr.back fun a hb z => s1.back a hb (s2.back a hb z)) hp
theorem d_bin {op : Operator} {r : R2} {f : D → D → (R → Prop) → Prop} {a c : Expr} {u1 u2 : DE} {pos : Pos} (ho : OpR X (binaryOp op) r) (h : LO X.K r f) (h1 : PD X b a u1) (h2 : PD X b c u2) : PD X b (.BinOp a op c pos) (uBin f u1 u2) := by
  obtain ⟨t1, p1, l1⟩ := h1
  obtain ⟨t2, p2, l2⟩ := h2
  exact ⟨_, pe_op ho p1 p2, le_bin h l1 l2⟩
theorem d_cmp {op : CmpOp} {r : R2} {f : D → D → (R → Prop) → Prop} {a c : Expr} {u1 u2 : DE} {pos : Pos} (ho : OpR X (compareOp op) r) (h : LO X.K r f) (hm : behindInMarks op c = false) (h1 : PD X b a u1) (h2 : PD X b c u2) : PD X b (.Compare a [op] [c] pos) (uBin f u1 u2) := by
  obtain ⟨t1, p1, l1⟩ := h1
  obtain ⟨t2, p2, l2⟩ := h2
  exact ⟨_, pe_cmpR ho p1 p2 hm, le_bin h l1 l2⟩
/-- a value that is a truth value -/
def asB (P : Bool → Prop) : R → Prop
  | .sh (.bl c) => P c
  | _ => False
theorem asB_of {P : Bool → Prop} {Hs G H : Hp} {σ : L2.St} {e : List Sl} {r : R} {v : V} (h : RepR K b Hs σ e G H r v) (p : asB P r) : ∃ c, v = .bl c ∧ P c := by
  cases r with
  | sh d =>
    cases d with
    | bl c => exact ⟨c, h, p⟩
    | _ => exact p.elim
  | _ => exact p.elim
def uTest (u : DE) : DT := fun e P => u e (asB P)
theorem lt_test {t : TE} {u : DE} (h : LE K b t u) : LT K b (tTest t) (uTest u) := by
  intro L G0 H0 G H σ e P Q g hu k
  refine h L G0 H0 G H σ e _ _ g hu fun v r G' H' s hr hp => ?_
  obtain ⟨c, rfl, hc⟩ := asB_of hr hp
  exact ⟨c, rfl, k c G' H' s hc⟩
theorem dt_cmp {op : CmpOp} {r : R2} {f : D → D → (R → Prop) → Prop} {a c : Expr} {u1 u2 : DE} {pos : Pos} (ho : OpR X (compareOp op) r) (h : LO X.K r f) (hm : behindInMarks op c = false) (h1 : PD X b a u1) (h2 : PD X b c u2) : PDT X b (.Compare a [op] [c] pos) (uTest (uBin f u1 u2)) := by
  obtain ⟨t1, p1, l1⟩ := h1
  obtain ⟨t2, p2, l2⟩ := h2
  exact ⟨_, pt_cmpR ho p1 p2 hm, lt_test (le_bin h l1 l2)⟩

/-! ### the operators' meanings -/
def fAdd : D → D → (R → Prop) → Prop
  | .int i, .int j, P => P (.sh (.int (i + j)))
  | .str x, .str y, P => x.length + y.length ≤ 1000000 ∧ P (.sh (.str (x ++ y)))
  | .lst xs, .lst ys, P => xs.length + ys.length ≤ 1000000 ∧ P (.ow (.lst (xs ++ ys)))
  | .tup xs, .tup ys, P => xs ≠ [] ∧ ys ≠ [] ∧ xs.length + ys.length ≤ 1000000 ∧ P (.sh (.tup (xs ++ ys)))
  | _, _, _ => False
theorem le_line {n : Nat} (h : n ≤ 1000000) : n ≤ sizeLine := by rw [sizeLine_eq]; omega
theorem lt_line {n : Nat} (h : n < 1000000) : n < sizeLine := by rw [sizeLine_eq]; omega
theorem repL_ne {G : Hp} {xs : List D} {vs : List V} (h : RepL K G xs vs) (n : xs ≠ []) : vs ≠ [] := fun z => by
  have := h.length
  rw [z] at this
  exact n (List.length_eq_zero_iff.mp this.symm)
theorem lo_add : LO K (fun x y H Q => (fun x y H Q => rI0 (fun i j => .int (i + j)) x y H Q ∨ (fun x y H Q => ∃ i j, x = .str i ∧ y = .str j ∧ i.length + j.length ≤ sizeLine ∧ Q (.str (i ++ j)) H) x y H Q) x y H Q ∨ (fun x y H Q => rCat x y H Q ∨ rCatT K x y H Q) x y H Q) fAdd := by
  intro b L G0 H0 G H σ e d1 d2 x y P Q g h1 h2 hf k
  unfold fAdd at hf
  split at hf
  · cases h1; cases h2
    exact .inl (.inl ⟨_, _, rfl, rfl, k _ (.sh (.int _)) G H (Stp.refl g.ex) rfl hf⟩)
  · cases h1; cases h2
    exact .inl (.inr ⟨_, _, rfl, rfl, le_line hf.1, k _ (.sh (.str _)) G H (Stp.refl g.ex) rfl hf.2⟩)
  · obtain ⟨a, vs, rfl, ha, hr⟩ := h1
    obtain ⟨a', vs', rfl, ha', hr'⟩ := h2
    refine .inr (.inl ⟨a, a', vs, vs', rfl, rfl, ha, ha', ?_, ?_⟩)
    · rw [hr.length, hr'.length]; exact le_line hf.1
    · exact g.newL (hr.append hr') hf.2 k
  · obtain ⟨a, vs, rfl, ha, hr⟩ := h1
    obtain ⟨a', vs', rfl, ha', hr'⟩ := h2
    refine .inr (.inr ⟨a, a', vs, vs', rfl, rfl, ha, ha', repL_ne hr hf.1, ?_, fun z => absurd z (repL_ne hr' hf.2.1), fun _ => ?_⟩)
    · rw [hr.length, hr'.length]; exact le_line hf.2.2.1
    · exact g.newT (hr.append hr') hf.2.2.2 k
  · exact hf.elim
theorem d_add {a c : Expr} {u1 u2 : DE} {pos : Pos} (h1 : PD X b a u1) (h2 : PD X b c u2) : PD X b (.BinOp a .Add c pos) (uBin fAdd u1 u2) :=
  d_bin (opR_or (opR_or op_add op_add_str) (opR_or op_cat op_catT)) lo_add h1 h2
/-- ints -/
def fI (C : Int → Int → Prop) (g : Int → Int → D) : D → D → (R → Prop) → Prop
  | .int i, .int j, P => C i j ∧ P (.sh (g i j))
  | _, _, _ => False
def fI0 (g : Int → Int → D) : D → D → (R → Prop) → Prop
  | .int i, .int j, P => P (.sh (g i j))
  | _, _, _ => False
theorem lo_I {C : Int → Int → Prop} {f : Int → Int → V} {g : Int → Int → D} (hg : ∀ i j G, Rep K G (g i j) (f i j)) : LO K (rI C f) (fI C g) := by
  refine LO.flat fun G H d1 d2 x y P Q ex h1 h2 hf k => ?_
  unfold fI at hf
  split at hf
  · cases h1; cases h2
    exact ⟨_, _, rfl, rfl, hf.1, k _ _ (hg _ _ G) hf.2⟩
  · exact hf.elim
theorem lo_I0 {f : Int → Int → V} {g : Int → Int → D} (hg : ∀ i j G, Rep K G (g i j) (f i j)) : LO K (rI0 f) (fI0 g) := by
  refine LO.flat fun G H d1 d2 x y P Q ex h1 h2 hf k => ?_
  unfold fI0 at hf
  split at hf
  · cases h1; cases h2
    exact ⟨_, _, rfl, rfl, k _ _ (hg _ _ G) hf⟩
  · exact hf.elim
abbrev fSub := fI0 fun i j => .int (i - j)
theorem d_sub {a c : Expr} {u1 u2 : DE} {pos : Pos} (h1 : PD X b a u1) (h2 : PD X b c u2) : PD X b (.BinOp a .Sub c pos) (uBin fSub u1 u2) := d_bin op_sub (lo_I0 fun _ _ _ => rfl) h1 h2
abbrev fMul := fI CMul fun i j => .int (i * j)
theorem d_mul {a c : Expr} {u1 u2 : DE} {pos : Pos} (h1 : PD X b a u1) (h2 : PD X b c u2) : PD X b (.BinOp a .Mult c pos) (uBin fMul u1 u2) := d_bin op_mul (lo_I fun _ _ _ => rfl) h1 h2
abbrev fMod := fI (fun _ j => 0 < j) fun i j => .int (i % j)
theorem d_mod {a c : Expr} {u1 u2 : DE} {pos : Pos} (h1 : PD X b a u1) (h2 : PD X b c u2) : PD X b (.BinOp a .Mod c pos) (uBin fMod u1 u2) := d_bin op_mod (lo_I fun _ _ _ => rfl) h1 h2
abbrev fDiv := fI CDiv fun i j => .int (i / j)
theorem d_div {a c : Expr} {u1 u2 : DE} {pos : Pos} (h1 : PD X b a u1) (h2 : PD X b c u2) : PD X b (.BinOp a .FloorDiv c pos) (uBin fDiv u1 u2) := d_bin op_fdiv (lo_I fun _ _ _ => rfl) h1 h2
abbrev fPow := fI CPow fun i j => .int (i ^ j.toNat)
theorem d_pow {a c : Expr} {u1 u2 : DE} {pos : Pos} (h1 : PD X b a u1) (h2 : PD X b c u2) : PD X b (.BinOp a .Pow c pos) (uBin fPow u1 u2) := d_bin op_pow (lo_I fun _ _ _ => rfl) h1 h2
abbrev fAnd := fI0 fun i j => .int (Builtin.bitAnd i j)
theorem d_band {a c : Expr} {u1 u2 : DE} {pos : Pos} (h1 : PD X b a u1) (h2 : PD X b c u2) : PD X b (.BinOp a .BitAnd c pos) (uBin fAnd u1 u2) := d_bin op_and (lo_I0 fun _ _ _ => rfl) h1 h2
abbrev fXor := fI0 fun i j => .int (Builtin.bitXor i j)
theorem d_bxor {a c : Expr} {u1 u2 : DE} {pos : Pos} (h1 : PD X b a u1) (h2 : PD X b c u2) : PD X b (.BinOp a .BitXor c pos) (uBin fXor u1 u2) := d_bin op_xor (lo_I0 fun _ _ _ => rfl) h1 h2
/-- order: ints and texts -/
def fOrd (p : Int → Int → Bool) (q : Str → Str → Bool) : D → D → (R → Prop) → Prop
  | .int i, .int j, P => P (.sh (.bl (p i j)))
  | .str x, .str y, P => P (.sh (.bl (q x y)))
  | _, _, _ => False
theorem lo_ord {p : Int → Int → Bool} {q : Str → Str → Bool} : LO K (fun x y H Q => rI0 (fun i j => .bl (p i j)) x y H Q ∨ (fun x y H Q => ∃ i j, x = .str i ∧ y = .str j ∧ Q (.bl (q i j)) H) x y H Q) (fOrd p q) := by
  refine LO.flat fun G H d1 d2 x y P Q ex h1 h2 hf k => ?_
  unfold fOrd at hf
  split at hf
  · cases h1; cases h2
    exact .inl ⟨_, _, rfl, rfl, k _ (.bl _) rfl hf⟩
  · cases h1; cases h2
    exact .inr ⟨_, _, rfl, rfl, k _ (.bl _) rfl hf⟩
  · exact hf.elim
abbrev fLt := fOrd (fun i j => decide (i < j)) (fun x y => decide (x.cps.toList < y.cps.toList))
abbrev fLe := fOrd (fun i j => decide (i ≤ j)) (fun x y => decide (x.cps.toList ≤ y.cps.toList))
abbrev fGt := fI0 fun i j => .bl (decide (j < i))
abbrev fGe := fI0 fun i j => .bl (decide (j ≤ i))
theorem d_lt {a c : Expr} {u1 u2 : DE} {pos : Pos} (h1 : PD X b a u1) (h2 : PD X b c u2) : PD X b (.Compare a [.Lt] [c] pos) (uBin fLt u1 u2) := d_cmp (opR_or op_lt op_lt_str) lo_ord (nomark _) h1 h2
theorem dt_lt {a c : Expr} {u1 u2 : DE} {pos : Pos} (h1 : PD X b a u1) (h2 : PD X b c u2) : PDT X b (.Compare a [.Lt] [c] pos) (uTest (uBin fLt u1 u2)) := dt_cmp (opR_or op_lt op_lt_str) lo_ord (nomark _) h1 h2
abbrev fLeI := fI0 fun i j => .bl (decide (i ≤ j))
theorem d_le {a c : Expr} {u1 u2 : DE} {pos : Pos} (h1 : PD X b a u1) (h2 : PD X b c u2) : PD X b (.Compare a [.LtE] [c] pos) (uBin fLeI u1 u2) := d_cmp op_le (lo_I0 fun _ _ _ => rfl) (nomark _) h1 h2
theorem dt_le {a c : Expr} {u1 u2 : DE} {pos : Pos} (h1 : PD X b a u1) (h2 : PD X b c u2) : PDT X b (.Compare a [.LtE] [c] pos) (uTest (uBin fLeI u1 u2)) := dt_cmp op_le (lo_I0 fun _ _ _ => rfl) (nomark _) h1 h2
theorem d_gt {a c : Expr} {u1 u2 : DE} {pos : Pos} (h1 : PD X b a u1) (h2 : PD X b c u2) : PD X b (.Compare a [.Gt] [c] pos) (uBin fGt u1 u2) := d_cmp op_gt (lo_I0 fun _ _ _ => rfl) (nomark _) h1 h2
theorem dt_gt {a c : Expr} {u1 u2 : DE} {pos : Pos} (h1 : PD X b a u1) (h2 : PD X b c u2) : PDT X b (.Compare a [.Gt] [c] pos) (uTest (uBin fGt u1 u2)) := dt_cmp op_gt (lo_I0 fun _ _ _ => rfl) (nomark _) h1 h2
theorem d_ge {a c : Expr} {u1 u2 : DE} {pos : Pos} (h1 : PD X b a u1) (h2 : PD X b c u2) : PD X b (.Compare a [.GtE] [c] pos) (uBin fGe u1 u2) := d_cmp op_ge (lo_I0 fun _ _ _ => rfl) (nomark _) h1 h2
theorem dt_ge {a c : Expr} {u1 u2 : DE} {pos : Pos} (h1 : PD X b a u1) (h2 : PD X b c u2) : PDT X b (.Compare a [.GtE] [c] pos) (uTest (uBin fGe u1 u2)) := dt_cmp op_ge (lo_I0 fun _ _ _ => rfl) (nomark _) h1 h2
end
end DL
namespace DL
open PySem L2
section
variable {X : Cx} {b : Bg} {K : PySem.W.Frag}
/-! ### equality -/
mutual
def toPy : D → PyData
  | .non => .none
  | .bl c => .bool c
  | .int i => .int i
  | .str s => .str s
  | .lst xs => .list (toPyL xs)
  | .tup xs => .tuple (toPyL xs)
  | .dk _ => .dict []
  | .obj _ _ => .dict []
  | .fn _ => .dict []
  | .exc _ _ => .dict []
  | .tabl _ _ => .dict []
def toPyL : List D → List PyData
  | [] => []
  | x :: xs => toPy x :: toPyL xs
end
-- no dict and no object within
mutual
def pure? : D → Bool
  | .lst xs => pureL xs
  | .tup xs => pureL xs
  | .dk _ => false
  | .obj _ _ => false
  | .fn _ => false
  | .exc _ _ => false
  | .tabl _ _ => false
  | _ => true
def pureL : List D → Bool
  | [] => true
  | x :: xs => pure? x && pureL xs
end
section
variable {G H : Hp}
mutual
theorem rep_dp (ex : Ex G H) : ∀ {d : D} {v : V}, pure? d = true → Rep K G d v → Dp K H v (toPy d)
  | .non, _, _, h => by cases h; exact .non
  | .bl c, _, _, h => by cases h; exact .bl c
  | .int i, _, _, h => by cases h; exact .int i
  | .str s, _, _, h => by cases h; exact .str s
  | .lst xs, _, p, ⟨a, vs, h1, h2, h3⟩ => by
    subst h1
    rcases Ex.old ex _ _ h2 with z | ⟨_, _, z, _⟩
    · exact .lst (SqL.of z) (repL_dp ex p h3)
    · cases z
  | .tup xs, _, p, ⟨a, vs, h1, h2, h3⟩ => by
    subst h1
    refine .tup ?_ (repL_dp ex p h3)
    rcases h2 with h2 | h2
    · rcases Ex.old ex _ _ h2 with z | ⟨_, _, z, _⟩
      · exact SqT.of z
      · cases z
    · exact .inr h2
  | .dk _, _, p, _ => by cases p
  | .obj _ _, _, p, _ => by cases p
  | .fn _, _, p, _ => by cases p
  | .exc _ _, _, p, _ => by cases p
  | .tabl _ _, _, p, _ => by cases p
theorem repL_dp (ex : Ex G H) : ∀ {xs : List D} {vs : List V}, pureL xs = true → RepL K G xs vs → DpAll K H vs (toPyL xs)
  | [], _, _, h => by cases h; exact .nil
  | x :: xs, _, p, ⟨v, r, h1, h2, h3⟩ => by
    subst h1
    have q : (pure? x && pureL xs) = true := p
    rw [Bool.and_eq_true] at q
    exact .cons (rep_dp ex q.1 h2) (repL_dp ex q.2 h3)
end
theorem top_dp (ex : Ex G H) {d : D} {v : V} (p : pure? d = true) (h : Top K G H d v) : Dp K H v (toPy d) := by
  cases d with
  | lst xs => obtain ⟨a, vs, rfl, h2, h3⟩ := h; exact .lst (SqL.of h2) (repL_dp ex p h3)
  | tup xs => obtain ⟨a, vs, rfl, h2, h3⟩ := h; exact .tup h2 (repL_dp ex p h3)
  | non => exact rep_dp ex p h
  | bl c => exact rep_dp ex p h
  | int i => exact rep_dp ex p h
  | str s => exact rep_dp ex p h
  | dk _ => cases p
  | obj _ _ => cases p
  | fn _ => cases p
  | exc _ _ => cases p
  | tabl _ _ => cases p
end
def okPy (d : D) : Prop := pure? d = true ∧ SeqAt.shaped (toPy d) = true
/-- == of values without parts -/
def eqF : D → D → Option Bool
  | .int i, .int j => some (decide (i = j))
  | .str x, .str y => some (decide (x = y))
  | .bl x, .bl y => some (decide (x = y))
  | .non, .non => some true
  | .non, .int _ => some false
  | .int _, .non => some false
  | .non, .bl _ => some false
  | .bl _, .non => some false
  | .non, .str _ => some false
  | .str _, .non => some false
  | .int _, .str _ => some false
  | .str _, .int _ => some false
  | .bl _, .str _ => some false
  | .str _, .bl _ => some false
  | _, _ => none
def fEq (d1 d2 : D) (P : R → Prop) : Prop := match eqF d1 d2 with
  | some c => P (.sh (.bl c))
  | none => okPy d1 ∧ okPy d2 ∧ P (.sh (.bl (PyData.eqv (toPy d1) (toPy d2))))
def fNe (d1 d2 : D) (P : R → Prop) : Prop := match eqF d1 d2 with
  | some c => P (.sh (.bl (!c)))
  | none => okPy d1 ∧ okPy d2 ∧ P (.sh (.bl (!PyData.eqv (toPy d1) (toPy d2))))
theorem eqF_scal {G H : Hp} {d1 d2 : D} {x y : V} {c : Bool} (h : eqF d1 d2 = some c) (h1 : Top K G H d1 x) (h2 : Top K G H d2 y) : scal x y = true ∧ decide (x = y) = c := by
  unfold eqF at h
  split at h <;> first | cases h | skip
  all_goals (cases h1; cases h2)
  all_goals first
    | exact ⟨rfl, by simp⟩
    | exact ⟨rfl, rfl⟩
theorem lo_eq : LO K (fun x y H Q => rEq x y H Q ∨ rEqD K x y H Q) fEq := by
  refine LO.flat fun G H d1 d2 x y P Q ex h1 h2 hf k => ?_
  unfold fEq at hf
  split at hf
  · rename_i c e
    obtain ⟨q1, q2⟩ := eqF_scal e h1 h2
    exact .inl ⟨q1, k _ (.bl c) (by rw [q2]; rfl) hf⟩
  · obtain ⟨⟨p1, s1⟩, ⟨p2, s2⟩, hp⟩ := hf
    exact .inr ⟨_, _, top_dp ex p1 h1, top_dp ex p2 h2, s1, s2, k _ (.bl _) rfl hp⟩
theorem lo_ne : LO K (fun x y H Q => rNe x y H Q ∨ rNeD K x y H Q) fNe := by
  refine LO.flat fun G H d1 d2 x y P Q ex h1 h2 hf k => ?_
  unfold fNe at hf
  split at hf
  · rename_i c e
    obtain ⟨q1, q2⟩ := eqF_scal e h1 h2
    exact .inl ⟨q1, k _ (.bl (!c)) (by rw [q2]; rfl) hf⟩
  · obtain ⟨⟨p1, s1⟩, ⟨p2, s2⟩, hp⟩ := hf
    exact .inr ⟨_, _, top_dp ex p1 h1, top_dp ex p2 h2, s1, s2, k _ (.bl _) rfl hp⟩
theorem d_eq {a c : Expr} {u1 u2 : DE} {pos : Pos} (hu : X.A.units + 64 < cLine) (h1 : PD X b a u1) (h2 : PD X b c u2) : PD X b (.Compare a [.Eq] [c] pos) (uBin fEq u1 u2) := d_cmp (opR_or op_eq (op_eqD hu)) lo_eq (nomark _) h1 h2
theorem dt_eq {a c : Expr} {u1 u2 : DE} {pos : Pos} (hu : X.A.units + 64 < cLine) (h1 : PD X b a u1) (h2 : PD X b c u2) : PDT X b (.Compare a [.Eq] [c] pos) (uTest (uBin fEq u1 u2)) := dt_cmp (opR_or op_eq (op_eqD hu)) lo_eq (nomark _) h1 h2
theorem d_ne {a c : Expr} {u1 u2 : DE} {pos : Pos} (hu : X.A.units + 64 < cLine) (h1 : PD X b a u1) (h2 : PD X b c u2) : PD X b (.Compare a [.NotEq] [c] pos) (uBin fNe u1 u2) := d_cmp (opR_or op_ne (op_neD hu)) lo_ne (nomark _) h1 h2
theorem dt_ne {a c : Expr} {u1 u2 : DE} {pos : Pos} (hu : X.A.units + 64 < cLine) (h1 : PD X b a u1) (h2 : PD X b c u2) : PDT X b (.Compare a [.NotEq] [c] pos) (uTest (uBin fNe u1 u2)) := dt_cmp (opR_or op_ne (op_neD hu)) lo_ne (nomark _) h1 h2
/-! ### is None -/
def isN : D → Bool
  | .non => true
  | _ => false
theorem isN_top {G H : Hp} {d : D} {x : V} (h : Top K G H d x) : decide (x = .non) = isN d := by
  cases d with
  | non => cases h; rfl
  | bl _ => cases h; rfl
  | int _ => cases h; rfl
  | str _ => cases h; rfl
  | lst _ => obtain ⟨a, vs, rfl, _⟩ := h; rfl
  | tup _ => obtain ⟨a, vs, rfl, _⟩ := h; rfl
  | dk _ => obtain ⟨a, vs, rfl, _⟩ := h; rfl
  | obj _ _ => obtain ⟨a, dx, vs, rfl, _⟩ := h; rfl
  | fn _ => cases h; rfl
  | exc _ _ => obtain ⟨a, dd, vs, rfl, _⟩ := h; rfl
  | tabl _ _ => obtain ⟨⟨a, rfl⟩, _⟩ := h; rfl
def fIs : D → D → (R → Prop) → Prop
  | d, .non, P => P (.sh (.bl (isN d)))
  | _, _, _ => False
def fIsNot : D → D → (R → Prop) → Prop
  | d, .non, P => P (.sh (.bl (!isN d)))
  | _, _, _ => False
theorem lo_is : LO K (fun x y H Q => y = .non ∧ Q (.bl (decide (x = .non))) H) fIs := by
  refine LO.flat fun G H d1 d2 x y P Q ex h1 h2 hf k => ?_
  unfold fIs at hf
  split at hf
  · cases h2
    exact ⟨rfl, k _ (.bl _) (by rw [isN_top h1]; rfl) hf⟩
  · exact hf.elim
theorem lo_isnot : LO K (fun x y H Q => y = .non ∧ Q (.bl (!decide (x = .non))) H) fIsNot := by
  refine LO.flat fun G H d1 d2 x y P Q ex h1 h2 hf k => ?_
  unfold fIsNot at hf
  split at hf
  · cases h2
    exact ⟨rfl, k _ (.bl _) (by rw [isN_top h1]; rfl) hf⟩
  · exact hf.elim
theorem d_is {a c : Expr} {u1 u2 : DE} {pos : Pos} (h1 : PD X b a u1) (h2 : PD X b c u2) : PD X b (.Compare a [.Is] [c] pos) (uBin fIs u1 u2) := d_cmp op_isN lo_is (nomark _) h1 h2
theorem dt_is {a c : Expr} {u1 u2 : DE} {pos : Pos} (h1 : PD X b a u1) (h2 : PD X b c u2) : PDT X b (.Compare a [.Is] [c] pos) (uTest (uBin fIs u1 u2)) := dt_cmp op_isN lo_is (nomark _) h1 h2
theorem d_isnot {a c : Expr} {u1 u2 : DE} {pos : Pos} (h1 : PD X b a u1) (h2 : PD X b c u2) : PD X b (.Compare a [.IsNot] [c] pos) (uBin fIsNot u1 u2) := d_cmp op_notN lo_isnot (nomark _) h1 h2
theorem dt_isnot {a c : Expr} {u1 u2 : DE} {pos : Pos} (h1 : PD X b a u1) (h2 : PD X b c u2) : PDT X b (.Compare a [.IsNot] [c] pos) (uTest (uBin fIsNot u1 u2)) := dt_cmp op_notN lo_isnot (nomark _) h1 h2
/-! ### in -/
def flatD : D → Bool
  | .non => true
  | .bl _ => true
  | .int _ => true
  | .str _ => true
  | _ => false
/-- y == x, both without parts -/
def eqD : D → D → Bool
  | .non, .non => true
  | .bl a, .bl b => a == b
  | .bl a, .int b => (if a then 1 else 0) == b
  | .int a, .bl b => a == (if b then 1 else 0)
  | .int a, .int b => a == b
  | .str a, .str b => a == b
  | _, _ => false
def inD (x : D) (xs : List D) : Bool := xs.any fun y => eqD y x
theorem flat_top {G H : Hp} {d : D} {x : V} (f : flatD d = true) (h : Top K G H d x) : flatV x = true := by
  cases d with
  | non => cases h; rfl
  | bl _ => cases h; rfl
  | int _ => cases h; rfl
  | str _ => cases h; rfl
  | _ => cases f
theorem flat_rep {G : Hp} {d : D} {x : V} (f : flatD d = true) (h : Rep K G d x) : flatV x = true := by
  cases d with
  | non => cases h; rfl
  | bl _ => cases h; rfl
  | int _ => cases h; rfl
  | str _ => cases h; rfl
  | _ => cases f
theorem eqD_V {G H : Hp} {d e : D} {x y : V} (fd : flatD d = true) (fe : flatD e = true) (h : Rep K G d x) (h' : Top K G H e y) : eqV x y = eqD d e := by
  cases d <;> first | cases fd | skip
  all_goals (cases e <;> first | cases fe | skip)
  all_goals (cases h; cases h'; rfl)
theorem inD_V {G H : Hp} {d : D} {y : V} (fe : flatD d = true) (h' : Top K G H d y) : ∀ {xs : List D} {vs : List V}, xs.all flatD = true → RepL K G xs vs → vs.all flatV = true ∧ inV y vs = inD d xs
  | [], _, _, h => by cases h; exact ⟨rfl, rfl⟩
  | x :: xs, _, f, ⟨v, r, h1, h2, h3⟩ => by
    subst h1
    rw [List.all_cons, Bool.and_eq_true] at f
    obtain ⟨q1, q2⟩ := inD_V fe h' f.2 h3
    refine ⟨by rw [List.all_cons, flat_rep f.1 h2, q1]; rfl, ?_⟩
    unfold inV inD at q2 ⊢
    rw [List.any_cons, List.any_cons, eqD_V f.1 fe h2 h', q2]
/-- one sign -/
def sign (c : Nat) : Str := ⟨#[c]⟩
def fIn (d1 d2 : D) (P : R → Prop) : Prop := match d2 with
  | .lst xs => flatD d1 = true ∧ xs.all flatD = true ∧ P (.sh (.bl (inD d1 xs)))
  | .tup xs => flatD d1 = true ∧ xs.all flatD = true ∧ P (.sh (.bl (inD d1 xs)))
  | .str z => ∃ c, d1 = .str (sign c) ∧ P (.sh (.bl (decide (c ∈ z.cps.toList))))
  | _ => False
def fNotIn (d1 d2 : D) (P : R → Prop) : Prop := match d2 with
  | .lst xs => flatD d1 = true ∧ xs.all flatD = true ∧ P (.sh (.bl (!inD d1 xs)))
  | .tup xs => flatD d1 = true ∧ xs.all flatD = true ∧ P (.sh (.bl (!inD d1 xs)))
  | .str z => ∃ c, d1 = .str (sign c) ∧ P (.sh (.bl (!decide (c ∈ z.cps.toList))))
  | _ => False
theorem lo_in : LO K (fun x y H Q => rIn K false x y H Q ∨ (fun x y H Q => ∃ (c : Nat) (z : Str), x = .str ⟨#[c]⟩ ∧ y = .str z ∧ Q (.bl (decide (c ∈ z.cps.toList))) H) x y H Q) fIn := by
  refine LO.flat fun G H d1 d2 x y P Q ex h1 h2 hf k => ?_
  unfold fIn at hf
  split at hf
  · obtain ⟨f1, f2, hp⟩ := hf
    obtain ⟨a, vs, rfl, ha, hr⟩ := h2
    obtain ⟨q1, q2⟩ := inD_V f1 h1 f2 hr
    exact .inl ⟨a, vs, rfl, .inl (SqL.of ha), flat_top f1 h1, q1, k _ (.bl _) (by rw [q2]; rfl) hp⟩
  · obtain ⟨f1, f2, hp⟩ := hf
    obtain ⟨a, vs, rfl, ha, hr⟩ := h2
    obtain ⟨q1, q2⟩ := inD_V f1 h1 f2 hr
    exact .inl ⟨a, vs, rfl, .inr ha, flat_top f1 h1, q1, k _ (.bl _) (by rw [q2]; rfl) hp⟩
  · obtain ⟨c, rfl, hp⟩ := hf
    cases h1; cases h2
    exact .inr ⟨c, _, rfl, rfl, k _ (.bl _) rfl hp⟩
  · exact hf.elim
theorem lo_notin : LO K (fun x y H Q => rIn K true x y H Q ∨ (fun x y H Q => ∃ (c : Nat) (z : Str), x = .str ⟨#[c]⟩ ∧ y = .str z ∧ Q (.bl (!decide (c ∈ z.cps.toList))) H) x y H Q) fNotIn := by
  refine LO.flat fun G H d1 d2 x y P Q ex h1 h2 hf k => ?_
  unfold fNotIn at hf
  split at hf
  · obtain ⟨f1, f2, hp⟩ := hf
    obtain ⟨a, vs, rfl, ha, hr⟩ := h2
    obtain ⟨q1, q2⟩ := inD_V f1 h1 f2 hr
    exact .inl ⟨a, vs, rfl, .inl (SqL.of ha), flat_top f1 h1, q1, k _ (.bl _) (by rw [q2]; rfl) hp⟩
  · obtain ⟨f1, f2, hp⟩ := hf
    obtain ⟨a, vs, rfl, ha, hr⟩ := h2
    obtain ⟨q1, q2⟩ := inD_V f1 h1 f2 hr
    exact .inl ⟨a, vs, rfl, .inr ha, flat_top f1 h1, q1, k _ (.bl _) (by rw [q2]; rfl) hp⟩
  · obtain ⟨c, rfl, hp⟩ := hf
    cases h1; cases h2
    exact .inr ⟨c, _, rfl, rfl, k _ (.bl _) rfl hp⟩
  · exact hf.elim
theorem d_in {a c : Expr} {u1 u2 : DE} {pos : Pos} (h1 : PD X b a u1) (h2 : PD X b c u2) (hm : behindInMarks .In c = false := by with_unfolding_all rfl) : PD X b (.Compare a [.In] [c] pos) (uBin fIn u1 u2) := d_cmp (opR_or op_in_seq op_in_sign) lo_in hm h1 h2
theorem dt_in {a c : Expr} {u1 u2 : DE} {pos : Pos} (h1 : PD X b a u1) (h2 : PD X b c u2) (hm : behindInMarks .In c = false := by with_unfolding_all rfl) : PDT X b (.Compare a [.In] [c] pos) (uTest (uBin fIn u1 u2)) := dt_cmp (opR_or op_in_seq op_in_sign) lo_in hm h1 h2
theorem d_notin {a c : Expr} {u1 u2 : DE} {pos : Pos} (h1 : PD X b a u1) (h2 : PD X b c u2) (hm : behindInMarks .NotIn c = false := by with_unfolding_all rfl) : PD X b (.Compare a [.NotIn] [c] pos) (uBin fNotIn u1 u2) := d_cmp (opR_or op_notIn_seq op_notIn_sign) lo_notin hm h1 h2
theorem dt_notin {a c : Expr} {u1 u2 : DE} {pos : Pos} (h1 : PD X b a u1) (h2 : PD X b c u2) (hm : behindInMarks .NotIn c = false := by with_unfolding_all rfl) : PDT X b (.Compare a [.NotIn] [c] pos) (uTest (uBin fNotIn u1 u2)) := dt_cmp (opR_or op_notIn_seq op_notIn_sign) lo_notin hm h1 h2
/-! ### and, or, not, if else -/
def uAnd (t u : DT) : DT := fun e P => t e fun c => if c = true then u e P else P false
def uOr (t u : DT) : DT := fun e P => t e fun c => if c = true then P true else u e P
def uNot (t : DT) : DT := fun e P => t e fun c => P (!c)
theorem lt_and {t1 t2 : TT} {u1 u2 : DT} (h1 : LT K b t1 u1) (h2 : LT K b t2 u2) : LT K b (tAnd t1 t2) (uAnd u1 u2) := by
  intro L G0 H0 G H σ e P Q g hu k
  refine h1 L G0 H0 G H σ e _ _ g hu fun c G1 H1 s1 q1 => ?_
  cases c with
  | true => exact h2 L G0 H0 G1 H1 σ e P Q (g.step s1) q1 fun c G2 H2 s2 q2 => k c G2 H2 (s1.trans s2) q2
  | false => exact k false G1 H1 s1 q1
theorem lt_or {t1 t2 : TT} {u1 u2 : DT} (h1 : LT K b t1 u1) (h2 : LT K b t2 u2) : LT K b (tOr t1 t2) (uOr u1 u2) := by
  intro L G0 H0 G H σ e P Q g hu k
  refine h1 L G0 H0 G H σ e _ _ g hu fun c G1 H1 s1 q1 => ?_
  cases c with
  | false => exact h2 L G0 H0 G1 H1 σ e P Q (g.step s1) q1 fun c G2 H2 s2 q2 => k c G2 H2 (s1.trans s2) q2
  | true => exact k true G1 H1 s1 q1
theorem lt_not {t1 : TT} {u1 : DT} (h1 : LT K b t1 u1) : LT K b (tNot t1) (uNot u1) := by
  intro L G0 H0 G H σ e P Q g hu k
  exact h1 L G0 H0 G H σ e _ _ g hu fun c G1 H1 s1 q1 => k _ G1 H1 s1 q1
theorem dw_and {a c : Expr} {rest : List Expr} {u1 u2 : DT} {pos : Pos} (h1 : PDT X b a u1) (h2 : PDW X b (.BoolOp .And (c :: rest) pos) u2) : PDW X b (.BoolOp .And (a :: c :: rest) pos) (uAnd u1 u2) := by
  obtain ⟨t1, p1, l1⟩ := h1
  obtain ⟨t2, p2, l2⟩ := h2
  exact ⟨_, pw_and p1 p2, lt_and l1 l2⟩
theorem dw_or {a c : Expr} {rest : List Expr} {u1 u2 : DT} {pos : Pos} (h1 : PDT X b a u1) (h2 : PDW X b (.BoolOp .Or (c :: rest) pos) u2) : PDW X b (.BoolOp .Or (a :: c :: rest) pos) (uOr u1 u2) := by
  obtain ⟨t1, p1, l1⟩ := h1
  obtain ⟨t2, p2, l2⟩ := h2
  exact ⟨_, pw_or p1 p2, lt_or l1 l2⟩
theorem dw_and1 {a : Expr} {u1 : DT} {pos : Pos} (h1 : PDT X b a u1) : PDW X b (.BoolOp .And [a] pos) u1 := by
  obtain ⟨t1, p1, l1⟩ := h1
  exact ⟨_, pw_and1 p1, l1⟩
theorem dw_or1 {a : Expr} {u1 : DT} {pos : Pos} (h1 : PDT X b a u1) : PDW X b (.BoolOp .Or [a] pos) u1 := by
  obtain ⟨t1, p1, l1⟩ := h1
  exact ⟨_, pw_or1 p1, l1⟩
theorem PDW.pt {e : Expr} {u : DT} (h : PDW X b e u) : PDT X b e u := by
  obtain ⟨t, p, l⟩ := h
  exact ⟨t, p.pt, l⟩
theorem dt_not {a : Expr} {u1 : DT} {pos : Pos} (h1 : PDT X b a u1) : PDT X b (.UnaryOp .Not a pos) (uNot u1) := by
  obtain ⟨t1, p1, l1⟩ := h1
  exact ⟨_, pt_not p1, lt_not l1⟩
/-- as values: all are truth values -/
def uAndV (t u : DE) : DE := fun e P => t e (asB fun c => if c = true then u e P else P (.sh (.bl false)))
def uOrV (t u : DE) : DE := fun e P => t e (asB fun c => if c = true then P (.sh (.bl true)) else u e P)
def uNotV (t : DE) : DE := fun e P => t e (asB fun c => P (.sh (.bl (!c))))
theorem le_and {t1 t2 : TE} {u1 u2 : DE} (h1 : LE K b t1 u1) (h2 : LE K b t2 u2) : LE K b (tAndV t1 t2) (uAndV u1 u2) := by
  intro L G0 H0 G H σ e P Q g hu k
  refine h1 L G0 H0 G H σ e _ _ g hu fun v r G1 H1 s1 hr q1 => ?_
  obtain ⟨c, rfl, q⟩ := asB_of hr q1
  refine ⟨c, rfl, ?_⟩
  cases c with
  | true => exact h2 L G0 H0 G1 H1 σ e P Q (g.step s1) q fun v r G2 H2 s2 hr q2 => k v r G2 H2 (s1.trans s2) (hr.back fun a hb z => s1.back a hb z) q2
  | false => exact k _ (.sh (.bl false)) G1 H1 s1 rfl q
theorem le_or {t1 t2 : TE} {u1 u2 : DE} (h1 : LE K b t1 u1) (h2 : LE K b t2 u2) : LE K b (tOrV t1 t2) (uOrV u1 u2) := by
  intro L G0 H0 G H σ e P Q g hu k
  refine h1 L G0 H0 G H σ e _ _ g hu fun v r G1 H1 s1 hr q1 => ?_
  obtain ⟨c, rfl, q⟩ := asB_of hr q1
  refine ⟨c, rfl, ?_⟩
  cases c with
  | false => exact h2 L G0 H0 G1 H1 σ e P Q (g.step s1) q fun v r G2 H2 s2 hr q2 => k v r G2 H2 (s1.trans s2) (hr.back fun a hb z => s1.back a hb z) q2
  | true => exact k _ (.sh (.bl true)) G1 H1 s1 rfl q
theorem le_not {t1 : TE} {u1 : DE} (h1 : LE K b t1 u1) : LE K b (tNotV t1) (uNotV u1) := by
  intro L G0 H0 G H σ e P Q g hu k
  refine h1 L G0 H0 G H σ e _ _ g hu fun v r G1 H1 s1 hr q1 => ?_
  obtain ⟨c, rfl, q⟩ := asB_of hr q1
  exact ⟨c, rfl, k _ (.sh (.bl (!c))) G1 H1 s1 rfl q⟩
theorem d_and {a c : Expr} {rest : List Expr} {u1 u2 : DE} {pos : Pos} (h1 : PD X b a u1) (h2 : PD X b (.BoolOp .And (c :: rest) pos) u2) : PD X b (.BoolOp .And (a :: c :: rest) pos) (uAndV u1 u2) := by
  obtain ⟨t1, p1, l1⟩ := h1
  obtain ⟨t2, p2, l2⟩ := h2
  exact ⟨_, pe_and p1 p2, le_and l1 l2⟩
theorem d_or {a c : Expr} {rest : List Expr} {u1 u2 : DE} {pos : Pos} (h1 : PD X b a u1) (h2 : PD X b (.BoolOp .Or (c :: rest) pos) u2) : PD X b (.BoolOp .Or (a :: c :: rest) pos) (uOrV u1 u2) := by
  obtain ⟨t1, p1, l1⟩ := h1
  obtain ⟨t2, p2, l2⟩ := h2
  exact ⟨_, pe_or p1 p2, le_or l1 l2⟩
theorem d_one {op : BoolOp} {a : Expr} {u1 : DE} {pos : Pos} (h1 : PD X b a u1) : PD X b (.BoolOp op [a] pos) u1 := by
  obtain ⟨t1, p1, l1⟩ := h1
  exact ⟨_, pe_one p1, l1⟩
theorem d_not {a : Expr} {u1 : DE} {pos : Pos} (h1 : PD X b a u1) : PD X b (.UnaryOp .Not a pos) (uNotV u1) := by
  obtain ⟨t1, p1, l1⟩ := h1
  exact ⟨_, pe_not p1, le_not l1⟩
def uIfE (t : DT) (u1 u2 : DE) : DE := fun e P => t e fun c => if c = true then u1 e P else u2 e P
theorem d_if {c a a' : Expr} {t : DT} {u1 u2 : DE} {pos : Pos} (h : PDT X b c t) (h1 : PD X b a u1) (h2 : PD X b a' u2) : PD X b (.IfExp c a a' pos) (uIfE t u1 u2) := by
  obtain ⟨tt, p, l⟩ := h
  obtain ⟨t1, p1, l1⟩ := h1
  obtain ⟨t2, p2, l2⟩ := h2
  refine ⟨_, pe_ifExp p p1 p2, ?_⟩
  intro L G0 H0 G H σ e P Q g hu k
  refine l L G0 H0 G H σ e _ _ g hu fun c G1 H1 s1 q => ?_
  cases c with
  | true => exact l1 L G0 H0 G1 H1 σ e P Q (g.step s1) q fun v r G2 H2 s2 hr q2 => k v r G2 H2 (s1.trans s2) (hr.back fun a hb z => s1.back a hb z) q2
  | false => exact l2 L G0 H0 G1 H1 σ e P Q (g.step s1) q fun v r G2 H2 s2 hr q2 => k v r G2 H2 (s1.trans s2) (hr.back fun a hb z => s1.back a hb z) q2
/-- any value as a test -/
def truD (d : D) (P : Bool → Prop) : Prop := match d with
  | .non => P false
  | .bl c => P c
  | .int i => P (i != 0)
  | .str s => s.length ≤ 1000000 ∧ P ((s.length : Int) != 0)
  | .lst xs => P (!xs.isEmpty)
  | .tup xs => P (!xs.isEmpty)
  | _ => False
theorem repL_emp {G : Hp} {xs : List D} {vs : List V} (h : RepL K G xs vs) : vs.isEmpty = xs.isEmpty := by
  cases xs with
  | nil => cases h; rfl
  | cons x xs => obtain ⟨v, r, rfl, _⟩ := h; rfl
theorem truD_V {G H : Hp} {d : D} {v : V} {P : Bool → Prop} (h : Top K G H d v) (p : truD d P) : ∃ k, TruV K v H k ∧ P k := by
  unfold truD at p
  split at p
  · cases h; exact ⟨_, rfl, p⟩
  · cases h; exact ⟨_, rfl, p⟩
  · cases h; exact ⟨_, rfl, p⟩
  · cases h; exact ⟨_, ⟨le_line p.1, rfl⟩, p.2⟩
  · obtain ⟨a, vs, rfl, ha, hr⟩ := h; exact ⟨_, .inl ⟨vs, SqL.of ha, rfl⟩, by rw [repL_emp hr]; exact p⟩
  · obtain ⟨a, vs, rfl, ha, hr⟩ := h; exact ⟨_, .inr (.inl ⟨vs, ha, rfl⟩), by rw [repL_emp hr]; exact p⟩
  · exact p.elim
def uTru (u : DE) : DT := fun e P => u e fun r => truD r.look P
theorem dt_tru {a : Expr} {u : DE} (h : PD X b a u) (he : ∀ whole, isTrue a X.env whole = (do let v ← whole; standAt a.pos; holding [v] (truthy v)) := by intro _; rfl) : PDT X b a (uTru u) := by
  obtain ⟨t, p, l⟩ := h
  refine ⟨_, pt_truth p he, ?_⟩
  intro L G0 H0 G H σ e P Q g hu k
  refine l L G0 H0 G H σ e _ _ g hu fun v r G1 H1 s1 hr q => ?_
  obtain ⟨c, q1, q2⟩ := truD_V (hr.top (g.step s1)) q
  exact ⟨c, q1, k c G1 H1 s1 q2⟩
/-! ### arguments that are kept -/
def uNil : DA := fun _ P => P []
def uCons (u : DE) (ua : DA) : DA := fun e P => u e (R.keep fun d => ua e fun ds => P (d :: ds))
theorem la_nil : LA K b tNil uNil := fun L G0 H0 G H σ e P Q g h k => k [] [] G H (Stp.refl g.ex) rfl h
theorem la_cons {t : TE} {ta : TA} {u : DE} {ua : DA} (h1 : LE K b t u) (h2 : LA K b ta ua) : LA K b (tCons t ta) (uCons u ua) := by
  intro L G0 H0 G H σ e P Q g hu k
  refine h1 L G0 H0 G H σ e _ _ g hu fun v r G1 H1 s1 hr q => ?_
  obtain ⟨d, G1', s1', hd, q'⟩ := hr.freeze s1 q
  refine h2 L G0 H0 G1' H1 σ e _ _ (g.step s1') q' fun vs ds G2 H2 s2 hr2 q2 => ?_
  exact k (v :: vs) (d :: ds) G2 H2 (s1'.trans s2) ⟨v, vs, rfl, hd.mono s2.g, hr2⟩ q2
theorem da_nil : PDA X b [] uNil := ⟨_, pa_nil, la_nil⟩
theorem da_cons {a : Expr} {es : List Expr} {u : DE} {ua : DA} (h1 : PD X b a u) (h2 : PDA X b es ua) (hs : starEach (a :: es) X.env = (false, eval a X.env) :: starEach es X.env := by rfl) : PDA X b (a :: es) (uCons u ua) := by
  obtain ⟨t1, p1, l1⟩ := h1
  obtain ⟨t2, p2, l2⟩ := h2
  exact ⟨_, pa_cons p1 p2 hs, la_cons l1 l2⟩
/-! ### displays -/
def uLst (ua : DA) : DE := fun e P => ua e fun ds => ds.length ≤ 1000000 ∧ P (.ow (.lst ds))
def uTup (ua : DA) : DE := fun e P => ua e fun ds => ds.length ≤ 1000000 ∧ P (.sh (.tup ds))
theorem d_lst {es : List Expr} {ua : DA} {pos : Pos} (h : PDA X b es ua) : PD X b (.List es pos) (uLst ua) := by
  obtain ⟨t, p, l⟩ := h
  refine ⟨_, pe_lst p, ?_⟩
  intro L G0 H0 G H σ e P Q g hu k
  refine l L G0 H0 G H σ e _ _ g hu fun vs ds G1 H1 s1 hr q => ⟨by rw [hr.length]; exact le_line q.1, ?_⟩
  exact (g.step s1).newL hr q.2 fun v r G2 H2 s2 hr2 p2 => k v r G2 H2 (s1.trans s2) (hr2.back fun a hb z => s1.back a hb z) p2
theorem d_tup {es : List Expr} {ua : DA} {x1} {pos : Pos} (h : PDA X b es ua) : PD X b (.Tuple es x1 pos) (uTup ua) := by
  obtain ⟨t, p, l⟩ := h
  refine ⟨_, pe_tup p, ?_⟩
  intro L G0 H0 G H σ e P Q g hu k
  refine l L G0 H0 G H σ e _ _ g hu fun vs ds G1 H1 s1 hr q => ⟨by rw [hr.length]; exact le_line q.1, ?_⟩
  exact (g.step s1).newT hr q.2 fun v r G2 H2 s2 hr2 p2 => k v r G2 H2 (s1.trans s2) (hr2.back fun a hb z => s1.back a hb z) p2
/-! ### subscripts -/
def atI {α : Type} (xs : List α) : Int → Option α
  | .ofNat n => xs[n]?
  | .negSucc n => if n < xs.length then xs[xs.length - (n + 1)]? else none
theorem atI_ix {α : Type} {xs : List α} {i : Int} {x : α} (h : atI xs i = some x) : ∃ j, ixN xs.length i = some j ∧ xs[j]? = some x := by
  cases i with
  | ofNat n =>
    have h' : xs[n]? = some x := h
    have hn := (List.getElem?_eq_some_iff.mp h').1
    refine ⟨n, ?_, h'⟩
    unfold ixN
    show (if 0 ≤ (n : Int) then if (n : Int) < xs.length then some (n : Int).toNat else none else if -(xs.length : Int) ≤ (n : Int) then some ((n : Int) + xs.length).toNat else none) = some n
    rw [if_pos (by omega), if_pos (by omega)]
    simp
  | negSucc n =>
    by_cases c : n < xs.length
    · have h' : (if n < xs.length then xs[xs.length - (n + 1)]? else none) = some x := h
      rw [if_pos c] at h'
      refine ⟨xs.length - (n + 1), ?_, h'⟩
      unfold ixN
      rw [if_neg (by omega), if_pos (by omega)]
      congr 1
      omega
    · have h' : (if n < xs.length then xs[xs.length - (n + 1)]? else none) = some x := h
      rw [if_neg c] at h'
      cases h'
def orF {α : Type} (P : α → Prop) : Option α → Prop
  | some x => P x
  | none => False
theorem orF_of {α : Type} {P : α → Prop} {o : Option α} (h : orF P o) : ∃ x, o = some x ∧ P x := by
  cases o with
  | none => exact h.elim
  | some x => exact ⟨x, rfl, h⟩
def fIx (d1 d2 : D) (P : R → Prop) : Prop := match d1, d2 with
  | .lst xs, .int i => orF (fun x => P (.sh x)) (atI xs i)
  | .tup xs, .int i => orF (fun x => P (.sh x)) (atI xs i)
  | .str s, .int i => s.length ≤ 1000000 ∧ orF (fun c => P (.sh (.str (sign c)))) (atI s.cps.toList i)
  | _, _ => False
theorem atD_V {G : Hp} {xs : List D} {vs : List V} {i : Int} {x : D} (h : RepL K G xs vs) (e : atI xs i = some x) : ∃ v, L2.atI vs i = some v ∧ Rep K G x v := by
  obtain ⟨j, h1, h2⟩ := atI_ix e
  obtain ⟨v, h3, h4⟩ := h.get h2
  refine ⟨v, ?_, h4⟩
  unfold L2.atI
  rw [h.length, h1]
  exact h3
theorem lo_ix : LO K (rIx K) fIx := by
  refine LO.flat fun G H d1 d2 x y P Q ex h1 h2 hf k => ?_
  unfold fIx at hf
  split at hf
  · obtain ⟨z, e, hp⟩ := orF_of hf
    obtain ⟨a, vs, rfl, ha, hr⟩ := h1
    cases h2
    obtain ⟨v, e', hv⟩ := atD_V hr e
    exact .inl ⟨a, vs, _, v, rfl, rfl, SqL.of ha, e', k v z hv hp⟩
  · obtain ⟨z, e, hp⟩ := orF_of hf
    obtain ⟨a, vs, rfl, ha, hr⟩ := h1
    cases h2
    obtain ⟨v, e', hv⟩ := atD_V hr e
    exact .inr (.inl ⟨a, vs, _, v, rfl, rfl, ha, e', k v z hv hp⟩)
  · obtain ⟨hz, hf⟩ := hf
    obtain ⟨c, e, hp⟩ := orF_of hf
    cases h1; cases h2
    obtain ⟨j, q1, q2⟩ := atI_ix e
    refine .inr (.inr ⟨_, _, c, rfl, rfl, le_line hz, ?_, k _ (.str _) rfl hp⟩)
    unfold L2.atI
    rw [q1]
    exact q2
  · exact hf.elim
theorem d_ix {a c : Expr} {u1 u2 : DE} {pos : Pos} (h1 : PD X b a u1) (h2 : PD X b c u2) (hs : PlainIx c := by exact fun _ _ => rfl) : PD X b (.Subscript a c pos) (uBin fIx u1 u2) := by
  obtain ⟨t1, p1, l1⟩ := h1
  obtain ⟨t2, p2, l2⟩ := h2
  exact ⟨_, pe_ix ix_seq p1 p2 hs, le_bin lo_ix l1 l2⟩
/-- an item at a place -/
theorem ix_at {xs : List D} {n : Nat} {x : D} {P : R → Prop} (h : xs[n]? = some x) (p : P (.sh x)) : fIx (.lst xs) (.int (n : Int)) P := by
  show orF (fun x => P (.sh x)) xs[n]?
  rw [h]
  exact p
theorem ix_mem {xs : List D} {j : Int} {P : R → Prop} (h0 : 0 ≤ j) (h1 : j < (xs.length : Int)) (p : ∀ x ∈ xs, P (.sh x)) : fIx (.lst xs) (.int j) P := by
  obtain ⟨n, rfl⟩ := Int.eq_ofNat_of_zero_le h0
  have hn : n < xs.length := by omega
  exact ix_at (x := xs[n]) (by simp [hn]) (p _ (List.getElem_mem hn))
theorem ix_atT {xs : List D} {n : Nat} {x : D} {P : R → Prop} (h : xs[n]? = some x) (p : P (.sh x)) : fIx (.tup xs) (.int (n : Int)) P := by
  show orF (fun x => P (.sh x)) xs[n]?
  rw [h]
  exact p
theorem ix_memT {xs : List D} {j : Int} {P : R → Prop} (h0 : 0 ≤ j) (h1 : j < (xs.length : Int)) (p : ∀ x ∈ xs, P (.sh x)) : fIx (.tup xs) (.int j) P := by
  obtain ⟨n, rfl⟩ := Int.eq_ofNat_of_zero_le h0
  have hn : n < xs.length := by omega
  exact ix_atT (x := xs[n]) (by simp [hn]) (p _ (List.getElem_mem hn))
end
end DL
namespace DL
open PySem L2
section
variable {X : Cx} {b : Bg} {K : PySem.W.Frag}
/-! ### slices -/
abbrev DO := List Sl → (Option Int → Prop) → Prop
def asI (P : Option Int → Prop) : R → Prop
  | .sh (.int i) => P (some i)
  | _ => False
structure PDO (X : Cx) (b : Bg) (o : Option Expr) (u : DO) : Prop where
  ex : ∃ t, PO X o t ∧ ∀ (L : Lk) (G0 H0 G H : Hp) (σ : L2.St) (e : List Sl) (P : Option Int → Prop) (Q : Option Int → Hp → Prop), Good X.K b L G0 H0 G H σ e → u e P → (∀ c G' H', Stp b [] G H G' H' → P c → Q c H') → t σ H Q
def uNo : DO := fun _ P => P none
def uPart (u : DE) : DO := fun e P => u e (asI P)
theorem do_none : PDO X b none uNo := ⟨_, po_none, fun L G0 H0 G H σ e P Q g h k => k none G H (Stp.refl g.ex) h⟩
theorem do_some {a : Expr} {u : DE} (h : PD X b a u) : PDO X b (some a) (uPart u) := by
  obtain ⟨t, p, l⟩ := h
  refine ⟨_, po_some p, ?_⟩
  intro L G0 H0 G H σ e P Q g hu k
  refine l L G0 H0 G H σ e _ _ g hu fun v r G1 H1 s1 hr q => ?_
  cases r with
  | sh d =>
    cases d with
    | int i => cases hr; exact ⟨i, rfl, k _ G1 H1 s1 q⟩
    | _ => exact q.elim
  | _ => exact q.elim
def cutD (xs : List D) (lo hi : Option Int) : List D := (xs.drop (HT.sIx xs.length 0 lo)).take (HT.sIx xs.length xs.length hi - HT.sIx xs.length 0 lo)
theorem cut_rep {G : Hp} {xs : List D} {vs : List V} (h : RepL K G xs vs) (lo hi : Option Int) : RepL K G (cutD xs lo hi) (cutV vs lo hi) := by
  unfold cutD cutV
  rw [h.length]
  exact (h.drop _).take _
def fSl (d : D) (lo hi : Option Int) (P : R → Prop) : Prop := match d with
  | .lst xs => P (.ow (.lst (cutD xs lo hi)))
  | .str s => s.length ≤ 1000000 ∧ P (.sh (.str (cutS s lo hi)))
  | .tup xs => ¬ (HT.sIx xs.length 0 lo = 0 ∧ HT.sIx xs.length xs.length hi = xs.length) ∧ P (.sh (.tup (cutD xs lo hi)))
  | _ => False
def uSl (u : DE) (ul uh : DO) : DE := fun e P => u e fun r => ul e fun l => uh e fun h => fSl r.look l h P
theorem d_slice {a : Expr} {lo hi : Option Expr} {u : DE} {ul uh : DO} {p2 pos : Pos} (h : PD X b a u) (hl : PDO X b lo ul) (hh : PDO X b hi uh) : PD X b (.Subscript a (.Slice lo hi none p2) pos) (uSl u ul uh) := by
  obtain ⟨t, p, l⟩ := h
  obtain ⟨t1, p1, l1⟩ := hl
  obtain ⟨t3, p3, l3⟩ := hh
  refine ⟨_, pe_slice (sl_list.or (sl_str.or sl_tup)) p p1 p3, ?_⟩
  intro L G0 H0 G H σ e P Q g hu k
  refine l L G0 H0 G H σ e _ _ g hu fun v r G1 H1 s1 hr q => ?_
  refine l1 L G0 H0 G1 H1 σ e _ _ (g.step s1) q fun i G2 H2 s2 q2 => ?_
  refine l3 L G0 H0 G2 H2 σ e _ _ ((g.step s1).step s2) q2 fun j G3 H3 s3 q3 => ?_
  have g3 := ((g.step s1).step s2).step s3
  have s03 := (s1.trans s2).trans s3
  have tp := ((hr.step s2).step s3).top g3
  have k' : ∀ v r G' H', Stp b [] G3 H3 G' H' → RepR X.K b H3 σ e G' H' r v → P r → Q v H' := fun v r G' H' s hr hp => k v r G' H' (s03.trans s) (hr.back fun a hb z => s03.back a hb z) hp
  show (rSlL X.K v i j H3 Q ∨ rSlS v i j H3 Q ∨ rSlT X.K v i j H3 Q)
  unfold fSl at q3
  split at q3
  · rename_i xs e
    rw [e] at tp
    obtain ⟨a, vs, rfl, ha, hr⟩ := tp
    exact .inl ⟨a, vs, rfl, SqL.of ha, g3.newL (cut_rep hr _ _) q3 k'⟩
  · rename_i s e
    rw [e] at tp
    cases tp
    exact .inr (.inl ⟨_, rfl, le_line q3.1, k' _ (.sh (.str _)) G3 H3 (Stp.refl g3.ex) rfl q3.2⟩)
  · rename_i xs e
    rw [e] at tp
    obtain ⟨a, vs, rfl, ha, hr⟩ := tp
    exact .inr (.inr ⟨a, vs, rfl, ha, by rw [hr.length]; exact q3.1, g3.newT (cut_rep hr _ _) q3.2 k'⟩)
  · exact q3.elim
/-! ### built-ins of one argument -/
def LC (K : PySem.W.Frag) (r : List V → Hp → VK → Prop) (f : D → (R → Prop) → Prop) : Prop := ∀ (b : Bg) (L : Lk) (G0 H0 G H : Hp) (σ : L2.St) (e : List Sl) (d : D) (x : V) (P : R → Prop) (Q : VK), Good K b L G0 H0 G H σ e →
  Top K G H d x → f d P → (∀ v r G' H', Stp b [] G H G' H' → RepR K b H σ e G' H' r v → P r → Q v H') → r [x] H Q
def uB (f : D → (R → Prop) → Prop) (u : DE) : DE := fun e P => u e fun r => f r.look P
theorem le_c1 {r : List V → Hp → VK → Prop} {f : D → (R → Prop) → Prop} {t : TE} {u : DE} (h : LC K r f) (h1 : LE K b t u) : LE K b (tCB r (tCons t tNil)) (uB f u) := by
  intro L G0 H0 G H σ e P Q g hu k
  refine h1 L G0 H0 G H σ e _ _ g hu fun v1 r1 G1 H1 s1 hr1 q1 => ?_
  have g1 := g.step s1
  exact h b L G0 H0 G1 H1 σ e _ v1 P Q g1 (hr1.top g1) q1 fun v r G' H' s hr hp => k v r G' H' (s1.trans s) (hr.back fun a hb z => s1.back a hb z) hp
theorem d_b1 {id : String} {r : List V → Hp → VK → Prop} {f : D → (R → Prop) → Prop} {x : Str} {a : Expr} {u : DE} {p pos : Pos} (hc : CallR X (.builtin id) r) (h : LC X.K r f) (hm : X.mg x = none) (hv : bootBuiltins x = some (.builtin id)) (h1 : PD X b a u) (hg : Gl X x := by rfl)
    (hn : x ≠ "__name__" := by decide) (hdb : (x == ("__debug__" : Str)) = false := by decide) (hs : starEach (a :: []) X.env = (false, eval a X.env) :: starEach [] X.env := by rfl) (hpl : (backTo pos (starEach [] X.env)).any (·.1) = false := by rfl) :
    PD X b (.Call (.Name x p) [a] [] pos) (uB f u) := by
  obtain ⟨t1, p1, l1⟩ := h1
  exact ⟨_, pe_callB hc hg hm hv (pa_cons p1 pa_nil hs) hn hdb hs hpl, le_c1 h l1⟩
theorem d_t1 {T : String} {r : List V → Hp → VK → Prop} {f : D → (R → Prop) → Prop} {x : Str} {a : Expr} {u : DE} {p pos : Pos} (hc : CallR X (.type T) r) (h : LC X.K r f) (hm : X.mg x = none) (hv : bootBuiltins x = some (.type T)) (h1 : PD X b a u) (hg : Gl X x := by rfl)
    (hn : x ≠ "__name__" := by decide) (hdb : (x == ("__debug__" : Str)) = false := by decide) (hs : starEach (a :: []) X.env = (false, eval a X.env) :: starEach [] X.env := by rfl) (hpl : (backTo pos (starEach [] X.env)).any (·.1) = false := by rfl) :
    PD X b (.Call (.Name x p) [a] [] pos) (uB f u) := by
  obtain ⟨t1, p1, l1⟩ := h1
  exact ⟨_, pe_callTy hc hg hm hv (pa_cons p1 pa_nil hs) hn hdb hs hpl, le_c1 h l1⟩
theorem callR_or {f : Value} {r r' : List V → Hp → VK → Prop} (h : CallR X f r) (h' : CallR X f r') : CallR X f (fun xs H Q => r xs H Q ∨ r' xs H Q) := by
  intro pins s σ H xs us Q I rs q
  rcases q with q | q
  · exact h pins s σ H xs us Q I rs q
  · exact h' pins s σ H xs us Q I rs q
/-- len -/
def fLen (d : D) (P : R → Prop) : Prop := match d with
  | .lst xs => P (.sh (.int xs.length))
  | .tup xs => P (.sh (.int xs.length))
  | .str s => s.length ≤ 1000000 ∧ P (.sh (.int s.length))
  | _ => False
theorem lc_len : LC K (fun xs H Q => (fun xs H Q => ∃ p ys, xs = [.ref p] ∧ (SqL K H p ys ∨ SqT K H p ys) ∧ Q (.int ys.length) H) xs H Q ∨ (fun xs H Q => ∃ z : Str, xs = [.str z] ∧ z.length ≤ sizeLine ∧ Q (.int z.length) H) xs H Q) fLen := by
  intro b L G0 H0 G H σ e d x P Q g h hf k
  have k' : ∀ i : Int, P (.sh (.int i)) → Q (.int i) H := fun i p => k _ (.sh (.int i)) G H (Stp.refl g.ex) rfl p
  unfold fLen at hf
  split at hf
  · obtain ⟨a, vs, rfl, ha, hr⟩ := h
    exact .inl ⟨a, vs, rfl, .inl (SqL.of ha), by rw [hr.length]; exact k' _ hf⟩
  · obtain ⟨a, vs, rfl, ha, hr⟩ := h
    exact .inl ⟨a, vs, rfl, .inr ha, by rw [hr.length]; exact k' _ hf⟩
  · cases h
    exact .inr ⟨_, rfl, le_line hf.1, k' _ hf.2⟩
  · exact hf.elim
theorem d_len {a : Expr} {u : DE} {p pos : Pos} (hm : X.mg "len" = none) (h1 : PD X b a u) (hg : Gl X "len" := by rfl) (hs : starEach (a :: []) X.env = (false, eval a X.env) :: starEach [] X.env := by rfl) (hpl : (backTo pos (starEach [] X.env)).any (·.1) = false := by rfl) :
    PD X b (.Call (.Name "len" p) [a] [] pos) (uB fLen u) := d_b1 (callR_or call_len_seq call_len_str) lc_len hm PySem.boot_len h1 hg (hs := hs) (hpl := hpl)
/-- int of an int, of a truth value -/
def fInt (d : D) (P : R → Prop) : Prop := match d with
  | .int i => P (.sh (.int i))
  | .bl c => P (.sh (.int (if c then 1 else 0)))
  | _ => False
theorem lc_int : LC K (fun xs H Q => (∃ i, xs = [.int i] ∧ Q (.int i) H) ∨ ∃ k, xs = [.bl k] ∧ Q (.int (if k then 1 else 0)) H) fInt := by
  intro b L G0 H0 G H σ e d x P Q g h hf k
  unfold fInt at hf
  split at hf
  · cases h; exact .inl ⟨_, rfl, k _ (.sh (.int _)) G H (Stp.refl g.ex) rfl hf⟩
  · cases h; exact .inr ⟨_, rfl, k _ (.sh (.int _)) G H (Stp.refl g.ex) rfl hf⟩
  · exact hf.elim
theorem d_intc {a : Expr} {u : DE} {p pos : Pos} (hm : X.mg "int" = none) (h1 : PD X b a u) (hg : Gl X "int" := by rfl) (hs : starEach (a :: []) X.env = (false, eval a X.env) :: starEach [] X.env := by rfl) (hpl : (backTo pos (starEach [] X.env)).any (·.1) = false := by rfl) :
    PD X b (.Call (.Name "int" p) [a] [] pos) (uB fInt u) := d_t1 call_int1 lc_int hm (by decide +kernel) h1 hg (hs := hs) (hpl := hpl)
/-- list of a list, of a tuple, of a text -/
def fList (d : D) (P : R → Prop) : Prop := match d with
  | .lst xs => P (.ow (.lst xs))
  | .tup xs => P (.ow (.lst xs))
  | _ => False
theorem lc_list_ : LC K (fun xs H Q => ∃ p ys, xs = [.ref p] ∧ (SqL K H p ys ∨ SqT K H p ys) ∧ ∀ l, H l = none → Q (.ref l) (upd H l (.lst ys))) fList := by
  intro b L G0 H0 G H σ e d x P Q g h hf k
  unfold fList at hf
  split at hf
  · obtain ⟨a, vs, rfl, ha, hr⟩ := h
    exact ⟨a, vs, rfl, .inl (SqL.of ha), g.newL hr hf k⟩
  · obtain ⟨a, vs, rfl, ha, hr⟩ := h
    exact ⟨a, vs, rfl, .inr ha, g.newL hr hf k⟩
  · exact hf.elim
theorem d_listc {a : Expr} {u : DE} {p pos : Pos} (hm : X.mg "list" = none) (h1 : PD X b a u) (hg : Gl X "list" := by rfl) (hs : starEach (a :: []) X.env = (false, eval a X.env) :: starEach [] X.env := by rfl) (hpl : (backTo pos (starEach [] X.env)).any (·.1) = false := by rfl) :
    PD X b (.Call (.Name "list" p) [a] [] pos) (uB fList u) := d_t1 call_list_of lc_list_ hm (by decide +kernel) h1 hg (hs := hs) (hpl := hpl)
/-- all of a list of truth values; sum of ints -/
def fAll (d : D) (P : R → Prop) : Prop := ∃ bs : List Bool, d = .lst (bs.map .bl) ∧ P (.sh (.bl (bs.all id)))
theorem lc_all : LC K (rAll K) fAll := by
  intro b L G0 H0 G H σ e d x P Q g h hf k
  obtain ⟨bs, rfl, hp⟩ := hf
  obtain ⟨a, vs, rfl, ha, hr⟩ := h
  rw [repL_bl hr] at ha
  exact ⟨a, bs, rfl, SqL.of ha, k _ (.sh (.bl _)) G H (Stp.refl g.ex) rfl hp⟩
theorem d_all {a : Expr} {u : DE} {p pos : Pos} (hm : X.mg "all" = none) (h1 : PD X b a u) (hc : X.calm = true := by rfl) (hg : Gl X "all" := by rfl) (hs : starEach (a :: []) X.env = (false, eval a X.env) :: starEach [] X.env := by rfl) (hpl : (backTo pos (starEach [] X.env)).any (·.1) = false := by rfl) :
    PD X b (.Call (.Name "all" p) [a] [] pos) (uB fAll u) := d_b1 (cr_all hc) lc_all hm (by decide +kernel) h1 hg (hs := hs) (hpl := hpl)
def fSum (d : D) (P : R → Prop) : Prop := ∃ ns : List Int, d = .lst (ns.map .int) ∧ P (.sh (.int ns.sum))
theorem lc_sum : LC K (rSum K) fSum := by
  intro b L G0 H0 G H σ e d x P Q g h hf k
  obtain ⟨bs, rfl, hp⟩ := hf
  obtain ⟨a, vs, rfl, ha, hr⟩ := h
  rw [repL_int hr] at ha
  exact ⟨a, bs, rfl, SqL.of ha, k _ (.sh (.int _)) G H (Stp.refl g.ex) rfl hp⟩
theorem d_sum {a : Expr} {u : DE} {p pos : Pos} (hm : X.mg "sum" = none) (h1 : PD X b a u) (hc : X.calm = true := by rfl) (hg : Gl X "sum" := by rfl) (hs : starEach (a :: []) X.env = (false, eval a X.env) :: starEach [] X.env := by rfl) (hpl : (backTo pos (starEach [] X.env)).any (·.1) = false := by rfl) :
    PD X b (.Call (.Name "sum" p) [a] [] pos) (uB fSum u) := d_b1 (cr_sum hc) lc_sum hm (by decide +kernel) h1 hg (hs := hs) (hpl := hpl)
/-! ### methods of built-ins: a text, one argument -/
def LM (K : PySem.W.Frag) (r : V → List V → Hp → VK → Prop) (f : D → D → (R → Prop) → Prop) : Prop := ∀ (b : Bg) (L : Lk) (G0 H0 G H : Hp) (σ : L2.St) (e : List Sl) (d1 d2 : D) (x y : V) (P : R → Prop) (Q : VK), Good K b L G0 H0 G H σ e →
  Top K G H d1 x → Top K G H d2 y → f d1 d2 P → (∀ v r G' H', Stp b [] G H G' H' → RepR K b H σ e G' H' r v → P r → Q v H') → r x [y] H Q
/-- o.m(e), o a text -/
def uM1 (f : D → D → (R → Prop) → Prop) (uo u : DE) : DE := fun e P => uo e fun r1 => (∃ s, r1.look = .str s) ∧ u e fun r2 => f r1.look r2.look P
theorem le_m1 {r : V → List V → Hp → VK → Prop} {f : D → D → (R → Prop) → Prop} {t1 t2 : TE} {u1 u2 : DE} (h : LM K r f) (h1 : LE K b t1 u1) (h2 : LE K b t2 u2) : LE K b (tM1 r t1 t2) (uM1 f u1 u2) := by
  intro L G0 H0 G H σ e P Q g hu k
  refine h1 L G0 H0 G H σ e _ _ g hu fun v1 r1 G1 H1 s1 hr1 q1 => ?_
  have g1 := g.step s1
  obtain ⟨⟨z, ez⟩, q1⟩ := q1
  have tp := hr1.top g1
  rw [ez] at tp
  refine ⟨⟨z, tp⟩, ?_⟩
  refine h2 L G0 H0 G1 H1 σ e _ _ g1 q1 fun v2 r2 G2 H2 s2 hr2 q2 => ?_
  have g2 := g1.step s2
  refine h b L G0 H0 G2 H2 σ e _ _ v1 v2 P Q g2 ((hr1.step s2).top g2) (hr2.top g2) q2 fun v r G' H' s hr hp => ?_
  exact k v r G' H' ((s1.trans s2).trans s) (hr.back fun a hb z => s1.back a hb (s2.back a hb z)) hp
def fJoin (d1 d2 : D) (P : R → Prop) : Prop := ∃ (a : Str) (ys : List Str), d1 = .str a ∧ (d2 = .lst (ys.map .str) ∨ d2 = .tup (ys.map .str)) ∧ (ys.map (·.length)).sum + ys.length * a.length ≤ 1000000 ∧ P (.sh (.str (Txt.join a ys)))
theorem lm_join : LM K (fun x xs H Q => ∃ a p, ∃ ys : List Str, x = .str a ∧ xs = [.ref p] ∧ (SqL K H p (ys.map V.str) ∨ SqT K H p (ys.map V.str)) ∧ (ys.map (·.length)).sum + ys.length * a.length ≤ 16777216 ∧ Q (.str (Txt.join a ys)) H) fJoin := by
  intro b L G0 H0 G H σ e d1 d2 x y P Q g h1 h2 hf k
  obtain ⟨a, ys, rfl, h, hz, hp⟩ := hf
  cases h1
  have kk := k _ (.sh (.str _)) G H (Stp.refl g.ex) rfl hp
  rcases h with rfl | rfl
  · obtain ⟨p, vs, rfl, ha, hr⟩ := h2
    rw [repL_str hr] at ha
    exact ⟨a, p, ys, rfl, rfl, .inl (SqL.of ha), by omega, kk⟩
  · obtain ⟨p, vs, rfl, ha, hr⟩ := h2
    rw [repL_str hr] at ha
    exact ⟨a, p, ys, rfl, rfl, .inr ha, by omega, kk⟩
theorem d_join {o a : Expr} {uo u : DE} {apos pos : Pos} (ho : PD X b o uo) (h : PD X b a u) (hbase : attributeBase o "join" X.env (eval o X.env) = eval o X.env := by rfl)
    (hf : ∀ {to te : TE}, PE X o to → PE X a te → PE X (.Call (.Attribute o "join" apos) [a] [] pos) (tM1 (fun x xs H Q => ∃ a p, ∃ ys : List Str, x = .str a ∧ xs = [.ref p] ∧ (SqL X.K H p (ys.map V.str) ∨ SqT X.K H p (ys.map V.str)) ∧ (ys.map (·.length)).sum + ys.length * a.length ≤ 16777216 ∧ Q (.str (Txt.join a ys)) H) to te) := by exact fun h1 h2 => pe_join h1 h2) :
    PD X b (.Call (.Attribute o "join" apos) [a] [] pos) (uM1 fJoin uo u) := by
  obtain ⟨t1, p1, l1⟩ := ho
  obtain ⟨t2, p2, l2⟩ := h
  exact ⟨_, hf p1 p2, le_m1 lm_join l1 l2⟩

/-! ### defs -/
abbrev FS := List D → (R → Prop) → Prop
/-- a def whose arguments are data, whose answer is data -/
def spN (K : PySem.W.Frag) (f : FS) : Sp := fun vs H Q _ => ∃ G ds P, Ex G H ∧ RepL K G ds vs ∧ f ds P ∧ ∀ v r G' H', Stp none [] G H G' H' → RepR K none H [] [] G' H' r v → P r → Q v H'
/-- the same, ahead of them the source of draws -/
def spB (K : PySem.W.Frag) (f : FS) : Sp := fun vs H Q _ => ∃ a vs' G ds P, vs = .ref a :: vs' ∧ Ex G H ∧ BagOk G H a ∧ RepL K G ds vs' ∧ f ds P ∧ ∀ v r G' H', Stp (some a) [] G H G' H' → RepR K (some a) H [] [] G' H' r v → P r → Q v H'
/-- a def that stands at its name -/
structure Known (P : Program) (w : World) (K : PySem.W.Frag) (mg : Str → Option Value) (base : Heap) (x : Str) (k : Nat) (ps : List Str) (sp : Sp) : Prop where
  ex : ∃ f fd, FnOk P w K mg base CX0 k f fd ps sp ∧ mg x = some (.ref f) ∧ PySem.W.keepIn K (.ref f) = true ∧ Binds K fd ps []
def uCall (f : FS) (ua : DA) : DE := fun e P => ua e fun ds => f ds P
theorem stp_any {b : Option Addr} {G H G' H' : Hp} (s : Stp none [] G H G' H') : Stp b [] G H G' H' := s.some
theorem d_call {x : Str} {k : Nat} {ps : List Str} {f : FS} {a : Expr} {es : List Expr} {ua : DA} {p pos : Pos} (F : Known X.prog X.w X.K X.mg X.base x k ps (spN X.K f)) (hr : Room k X.A) (ha : PDA X b (a :: es) ua) (hg : Gl X x := by rfl)
    (hdb : (x == ("__debug__" : Str)) = false := by decide) (he : starEach (a :: es) X.env = (false, eval a X.env) :: starEach es X.env := by rfl) (hpl : (backTo pos (starEach es X.env)).any (·.1) = false := by rfl) : PD X b (.Call (.Name x p) (a :: es) [] pos) (uCall f ua) := by
  obtain ⟨fa, fd, F, hm, hk, hb⟩ := F
  obtain ⟨t, pa, l⟩ := ha
  refine ⟨_, pe_call F hr hg hm hk hb .nil pass0 pa hdb he hpl, ?_⟩
  intro L G0 H0 G H σ e P Q g hu k
  refine l L G0 H0 G H σ e _ _ g hu fun vs ds G1 H1 s1 hds q => ?_
  have g1 := g.step s1
  show spN X.K f (vs ++ []) H1 Q E0
  rw [List.append_nil]
  refine ⟨G1, ds, P, g1.ex, hds, q, fun v r G' H' s hr hp => ?_⟩
  have s' : Stp b [] G1 H1 G' H' := s.some
  refine k v r G' H' (s1.trans s') ?_ hp
  cases r with
  | sh d => exact hr
  | ow o =>
    obtain ⟨a, ho, h1, _, h3, h4⟩ := hr
    have hb : b.a ≠ some a := g1.nb h3
    exact ⟨a, ho, h1, hb, s1.back a hb h3, h4⟩
  | al i o => obtain ⟨⟨_, h⟩, _⟩ := hr; simp at h
theorem d_call0 {x : Str} {k : Nat} {ps : List Str} {f : FS} {p pos : Pos} (F : Known X.prog X.w X.K X.mg X.base x k ps (spN X.K f)) (hr : Room k X.A) (hg : Gl X x := by rfl) (hdb : (x == ("__debug__" : Str)) = false := by decide) : PD X b (.Call (.Name x p) [] [] pos) (uCall f uNil) := by
  obtain ⟨fa, fd, F, hm, hk, hb⟩ := F
  refine ⟨_, pe_call0 F hr hg hm hk hb .nil pass0 hdb, ?_⟩
  intro L G0 H0 G H σ e P Q g hu k
  refine ⟨G, [], P, g.ex, rfl, hu, fun v r G' H' s hr hp => ?_⟩
  have s' : Stp b [] G H G' H' := s.some
  refine k v r G' H' s' ?_ hp
  cases r with
  | sh d => exact hr
  | ow o =>
    obtain ⟨a, ho, h1, _, h3, h4⟩ := hr
    exact ⟨a, ho, h1, g.nb h3, h3, h4⟩
  | al i o => obtain ⟨⟨_, h⟩, _⟩ := hr; simp at h
/-- a call with the source of draws in slot i -/
def uCallB (f : FS) (i : Nat) (ua : DA) : DE := fun e P => nth e i = .bag ∧ ua e fun ds => f ds P
theorem d_callB {x y : Str} {i k : Nat} {ps : List Str} {f : FS} {es : List Expr} {ua : DA} {p py pos : Pos} (F : Known X.prog X.w X.K X.mg X.base x k ps (spB X.K f)) (hr : Room k X.A) (ha : PDA X b es ua) (hN : X.N[i]? = some y := by rfl)
    (hv : Vis X.env.scope y := by first | exact Or.inl rfl | exact Or.inr (Or.inl rfl) | exact Or.inr (Or.inr rfl)) (hg : Gl X x := by rfl) (hdb : (x == ("__debug__" : Str)) = false := by decide) (hdy : (y == ("__debug__" : Str)) = false := by decide) (hcy : (y == ("__classdict__" : Str)) = false := by decide)
    (he : starEach (.Name y py :: es) X.env = (false, eval (.Name y py) X.env) :: starEach es X.env := by rfl) (hpl : (backTo pos (starEach es X.env)).any (·.1) = false := by rfl) : PD X b (.Call (.Name x p) (.Name y py :: es) [] pos) (uCallB f i ua) := by
  obtain ⟨fa, fd, F, hm, hk, hb⟩ := F
  obtain ⟨t, pa, l⟩ := ha
  refine ⟨_, pe_call F hr hg hm hk hb .nil pass0 (pa_cons (pe_var hN hv hdy hcy) pa he) hdb he hpl, ?_⟩
  intro L G0 H0 G H σ e P Q g hu k
  obtain ⟨hi, hu⟩ := hu
  obtain ⟨a, ea, hs⟩ := g.slot i _ (nth_get hi (by simp))
  refine ⟨_, hs, ?_⟩
  refine l L G0 H0 G H σ e _ _ g hu fun vs ds G1 H1 s1 hds q => ?_
  have g1 := g.step s1
  show spB X.K f (.ref a :: vs ++ []) H1 Q E0
  rw [List.append_nil]
  refine ⟨a, vs, G1, ds, P, rfl, g1.ex, g1.bag a ea, hds, q, fun v r G' H' s hr hp => ?_⟩
  rw [← ea] at s hr
  refine k v r G' H' (s1.trans s) ?_ hp
  cases r with
  | sh d => exact hr
  | ow o =>
    obtain ⟨a, ho, h1, hb, h3, h4⟩ := hr
    exact ⟨a, ho, h1, hb, s1.back a hb h3, h4⟩
  | al i o => obtain ⟨⟨_, h⟩, _⟩ := hr; simp at h
end
end DL
namespace DL
open PySem L2
structure DEnds where
  nx : List Sl → Prop
  rt : R → List Sl → Prop
  bk : List Sl → Prop := fun _ => False
  ct : List Sl → Prop := fun _ => False
abbrev DS := DEnds → List Sl → Prop
structure EndsOk (K : PySem.W.Frag) (b : Bg) (L : Lk) (G0 H0 : Hp) (DD : DEnds) (D : Ends) : Prop where
  nx : ∀ G H σ e, Good K b L G0 H0 G H σ e → DD.nx e → D.nx σ H
  rt : ∀ G H σ e v r, Good K b L G0 H0 G H σ e → RepR K b H0 [] [] G H r v → DD.rt r e → D.rt v H
  bk : ∀ G H σ e, Good K b L G0 H0 G H σ e → DD.bk e → D.bk σ H
  ct : ∀ G H σ e, Good K b L G0 H0 G H σ e → DD.ct e → D.ct σ H
def LS (K : PySem.W.Frag) (b : Bg) (t : TS) (u : DS) : Prop := ∀ (L : Lk) (G0 H0 G H : Hp) (σ : L2.St) (e : List Sl) (DD : DEnds) (D : Ends), Good K b L G0 H0 G H σ e → EndsOk K b L G0 H0 DD D → u DD e → t D σ H
structure PDS (X : Cx) (b : Bg) (st : Stmt) (u : DS) : Prop where
  ex : ∃ t, PS X st t ∧ LS X.K b t u
structure PDSs (X : Cx) (b : Bg) (st : List Stmt) (u : DS) : Prop where
  ex : ∃ t, PSs X st t ∧ LS X.K b t u
section
variable {X : Cx} {b : Bg} {K : PySem.W.Frag}
def uNext : DS := fun DD e => DD.nx e
def uSeq (u1 u2 : DS) : DS := fun DD e => u1 { DD with nx := u2 DD } e
theorem ls_seq {t1 t2 : TS} {u1 u2 : DS} (h1 : LS K b t1 u1) (h2 : LS K b t2 u2) : LS K b (tSeq t1 t2) (uSeq u1 u2) := by
  intro L G0 H0 G H σ e DD D g ok h
  exact h1 L G0 H0 G H σ e { DD with nx := u2 DD } { D with nx := t2 D } g ⟨fun G H σ e g h => h2 L G0 H0 G H σ e DD D g ok h, ok.rt, ok.bk, ok.ct⟩ h
theorem dss_nil : PDSs X b [] uNext := ⟨_, pss_nil, fun L G0 H0 G H σ e DD D g ok h => ok.nx G H σ e g h⟩
theorem dss_cons {st : Stmt} {rest : List Stmt} {u1 u2 : DS} (h1 : PDS X b st u1) (h2 : PDSs X b rest u2) : PDSs X b (st :: rest) (uSeq u1 u2) := by
  obtain ⟨t1, p1, l1⟩ := h1
  obtain ⟨t2, p2, l2⟩ := h2
  exact ⟨_, pss_cons p1 p2, ls_seq l1 l2⟩
theorem dss_one {st : Stmt} {u : DS} (h : PDS X b st u) : PDSs X b [st] u := by
  obtain ⟨t, p, l⟩ := h
  exact ⟨_, pss_one p, l⟩
theorem get_lt {α : Type} {l : List α} {i : Nat} {x : α} (h : l[i]? = some x) : i < l.length := (List.getElem?_eq_some_iff.mp h).1
theorem get_set {α : Type} {l : List α} {i j : Nat} {x : α} : (l.set i x)[j]? = if i = j then (if i < l.length then some x else none) else l[j]? := by
  rw [List.getElem?_set]
/-- a slot is set -/
theorem Good.setS {L : Lk} {G0 H0 G H : Hp} {σ : L2.St} {e : List Sl} (g : Good K b L G0 H0 G H σ e) (i : Nat) {d : D} {v : V} (h : Rep K G d v) : Good K b L G0 H0 G H (σ.set i (some v)) (e.set i (.sh d)) where
  stp := g.stp
  slot := fun j x hx => by
    rw [get_set] at hx ⊢
    by_cases c : i = j
    · rw [if_pos c] at hx ⊢
      by_cases d' : i < e.length
      · rw [if_pos d'] at hx
        cases hx
        rw [if_pos (by rw [← g.len]; exact d')]
        exact ⟨v, rfl, h⟩
      · rw [if_neg d'] at hx; cases hx
    · rw [if_neg c] at hx ⊢
      exact g.slot j x hx
  inj := fun j k t t' o o' a h1 h2 h3 h4 => by
    rw [get_set] at h1 h2 h3 h4
    by_cases c : i = j
    · rw [if_pos c] at h1
      split at h1 <;> cases h1
    · by_cases c' : i = k
      · rw [if_pos c'] at h2
        split at h2 <;> cases h2
      · rw [if_neg c] at h1 h3
        rw [if_neg c'] at h2 h4
        exact g.inj j k t t' o o' a h1 h2 h3 h4
  bag := g.bag
  lk := g.lk
  len := by rw [List.length_set, List.length_set]; exact g.len
  xl := g.xl
/-- a value may be taken by a slot: new since the entry, no other slot's -/
def Fresh (H0 : Hp) (σ : L2.St) (e : List Sl) (a : Addr) : Prop := H0 a = none ∧ ∀ (j : Nat) (q' : Option Addr) (o' : OD), e[j]? = some (.own q' o') → σ[j]? ≠ some (some (.ref a))
theorem Good.setO {L : Lk} {G0 H0 G H : Hp} {σ : L2.St} {e : List Sl} (g : Good K b L G0 H0 G H σ e) (i : Nat) {o : OD} {a : Addr} {ho : HO} (hb : b.a ≠ some a) (f : Fresh H0 σ e a) (hg : G a = none) (hh : H a = some ho) (h : RepO K G o ho) :
    Good K b L G0 H0 G H (σ.set i (some (.ref a))) (e.set i (.own none o)) where
  stp := g.stp
  slot := fun j x hx => by
    rw [get_set] at hx ⊢
    by_cases c : i = j
    · rw [if_pos c] at hx ⊢
      by_cases d' : i < e.length
      · rw [if_pos d'] at hx
        cases hx
        rw [if_pos (by rw [← g.len]; exact d')]
        exact ⟨a, ho, rfl, hb, f.1, hg, hh, h, fun _ z => by cases z⟩
      · rw [if_neg d'] at hx; cases hx
    · rw [if_neg c] at hx ⊢
      exact g.slot j x hx
  inj := fun j k t1 t2 o1 o2 a' h1 h2 h3 h4 => by
    rw [get_set] at h1 h2 h3 h4
    by_cases c : i = j
    · by_cases c' : i = k
      · exact c.symm.trans c'
      · rw [if_neg c'] at h2 h4
        rw [if_pos c] at h3
        split at h3
        · cases h3
          exact absurd h4 (f.2 k t2 o2 h2)
        · cases h3
    · by_cases c' : i = k
      · rw [if_neg c] at h1 h3
        rw [if_pos c'] at h4
        split at h4
        · cases h4
          exact absurd h3 (f.2 j t1 o1 h1)
        · cases h4
      · rw [if_neg c] at h1 h3
        rw [if_neg c'] at h2 h4
        exact g.inj j k t1 t2 o1 o2 a' h1 h2 h3 h4
  bag := g.bag
  lk := g.lk
  len := by rw [List.length_set, List.length_set]; exact g.len
  xl := g.xl
/-- an owned thing changes -/
theorem Good.upd {L : Lk} {G0 H0 G H : Hp} {σ : L2.St} {e : List Sl} (g : Good K b L G0 H0 G H σ e) {i : Nat} {q : Option Addr} {o o' : OD} {a : Addr} {ho : HO} (hi : e[i]? = some (.own q o)) (hs : σ[i]? = some (some (.ref a))) (hm : ∀ od u, H a ≠ some (.frz od u)) (h : RepO K G o' ho) :
    Good K b L G0 H0 G (upd H a ho) σ (e.set i (.own q o')) := by
  obtain ⟨a', ho', h1, h2, h3, h4, h5, h6, h7⟩ := g.slot i _ hi
  rw [hs] at h1
  cases h1
  refine ⟨⟨⟨g.stp.g, fun c u hc nm hu => ?_, g.stp.new, fun c u hu => ?_, fun c hc h => ?_⟩, fun j x hx => ?_, fun j k t1 t2 o1 o2 c q1 q2 q3 q4 => ?_, fun c hc => ?_, fun c od u m => ?_, by rw [List.length_set]; exact g.len⟩, g.xl⟩
  · have hca : c ≠ a := fun z => by rw [z, h3] at hu; cases hu
    rw [upd_ne hca]
    exact g.stp.fr c u hc nm hu
  · rw [upd_ne (ne_of_none hu h4)]
    exact g.ex c u hu
  · have q := g.stp.bag c hc h
    obtain ⟨z1, s, ns, i, n, z, z2, z3⟩ := q
    have hca : c ≠ a := fun z => h2 (by rw [← z]; exact hc)
    exact ⟨z1, s, ns, i, n, z, by rw [upd_ne hca]; exact z2, z3⟩
  · rw [get_set] at hx
    by_cases c : i = j
    · rw [if_pos c] at hx
      split at hx
      · cases hx
        subst c
        exact ⟨a, ho, hs, h2, h3, h4, upd_same, h, h7⟩
      · cases hx
    · rw [if_neg c] at hx
      have q := g.slot j x hx
      cases x with
      | un => trivial
      | sh d => exact q
      | own t2 o2 =>
        obtain ⟨a2, ho2, z1, z2, z3, z4, z5, z6⟩ := q
        have ne : a2 ≠ a := fun z => by
          subst z
          exact c (g.inj i j _ _ o o2 a2 hi hx hs z1)
        exact ⟨a2, ho2, z1, z2, z3, z4, by rw [upd_ne ne]; exact z5, z6⟩
      | bag => exact q
  · have tr : ∀ {j : Nat} {t1 : Option Addr} {o1 : OD}, (e.set i (.own q o'))[j]? = some (.own t1 o1) → ∃ t3 o3, e[j]? = some (.own t3 o3) := fun {j t1 o1} q => by
      rw [get_set] at q
      by_cases c : i = j
      · subst c; exact ⟨_, _, hi⟩
      · rw [if_neg c] at q; exact ⟨_, _, q⟩
    obtain ⟨_, _, q1⟩ := tr q1
    obtain ⟨_, _, q2⟩ := tr q2
    exact g.inj j k _ _ _ _ c q1 q2 q3 q4
  · obtain ⟨z1, s, ns, i, n, z, z2, z3⟩ := g.bag c hc
    have hca : c ≠ a := fun z => h2 (by rw [← z]; exact hc)
    exact ⟨z1, s, ns, i, n, z, by rw [upd_ne hca]; exact z2, z3⟩
  · have q := g.lk c od u m
    have hca : c ≠ a := fun z => hm od u (by rw [← z]; exact q)
    rw [upd_ne hca]; exact q
/-- an owned thing is given up: from now on it is shared -/
theorem Good.frz {L : Lk} {G0 H0 G H : Hp} {σ : L2.St} {e : List Sl} (g : Good K b L G0 H0 G H σ e) {i : Nat} {q : Option Addr} {o : OD} (hi : e[i]? = some (.own q o)) : ∃ G', Good K b L G0 H0 G' H σ (e.set i (.sh o.d)) := by
  obtain ⟨a, ho, h1, h2, h3, h4, h5, h6, h7⟩ := g.slot i _ hi
  have sub := sub_upd (o := ho) h4
  refine ⟨L2.upd G a ho, ⟨⟨g.stp.g.trans sub, g.stp.fr, fun c hc hu hg => ?_, fun c u hu => ?_, fun c hc h => ?_⟩, fun j x hx => ?_, fun j k t1 t2 o1 o2 c q1 q2 q3 q4 => ?_, fun c hc => ?_, g.lk, by rw [List.length_set]; exact g.len⟩, g.xl⟩
  · rw [upd_ne (fun z => hu (by rw [z]; exact h3))]
    exact g.stp.new c hc hu hg
  · by_cases z : c = a
    · subst z; rw [upd_same] at hu; cases hu; exact .inl h5
    · rw [upd_ne z] at hu; exact (g.ex c u hu).mono sub
  · obtain ⟨z1, s, ns, i, n, z, z2, z3, z4⟩ := g.stp.bag c hc h
    exact ⟨by rw [upd_ne (fun z => h2 (by rw [← z]; exact hc))]; exact z1, s, ns, i, n, z, z2, sub _ _ z3, z4⟩
  · rw [get_set] at hx
    by_cases c : i = j
    · rw [if_pos c] at hx
      split at hx
      · cases hx
        subst c
        exact ⟨_, h1, h6.rep h4⟩
      · cases hx
    · rw [if_neg c] at hx
      have q := g.slot j x hx
      cases x with
      | un => trivial
      | sh d => obtain ⟨v, z1, z2⟩ := q; exact ⟨v, z1, z2.mono sub⟩
      | own t2 o2 =>
        obtain ⟨a2, ho2, z1, z2, z3, z4, z5, z6, z7⟩ := q
        have ne : a2 ≠ a := fun z => by
          subst z
          exact c (g.inj i j _ _ o o2 a2 hi hx h1 z1)
        exact ⟨a2, ho2, z1, z2, z3, by rw [upd_ne ne]; exact z4, z5, z6.mono sub, z7⟩
      | bag => exact q
  · have tr : ∀ {j : Nat} {t1 : Option Addr} {o1 : OD}, (e.set i (.sh o.d))[j]? = some (.own t1 o1) → e[j]? = some (.own t1 o1) := fun {j t1 o1} q => by
      rw [get_set] at q
      by_cases c : i = j
      · rw [if_pos c] at q; split at q <;> cases q
      · rw [if_neg c] at q; exact q
    exact g.inj j k _ _ _ _ c (tr q1) (tr q2) q3 q4
  · obtain ⟨z1, s, ns, i, n, z, z2, z3, z4⟩ := g.bag c hc
    exact ⟨by rw [upd_ne (fun z => h2 (by rw [← z]; exact hc))]; exact z1, s, ns, i, n, z, z2, sub _ _ z3, z4⟩
def uFrz (i : Nat) (u : DS) : DS := fun DD e => match nth e i with
  | .own _ o => u DD (e.set i (.sh o.d))
  | _ => False
theorem dss_frz (i : Nat) {st : List Stmt} {u : DS} (h : PDSs X b st u) : PDSs X b st (uFrz i u) := by
  obtain ⟨t, p, l⟩ := h
  refine ⟨t, p, ?_⟩
  intro L G0 H0 G H σ e DD D g ok hu
  unfold uFrz at hu
  split at hu
  · rename_i t o ho
    obtain ⟨G', g'⟩ := g.frz (nth_get ho (by simp))
    exact l L G0 H0 G' H σ _ DD D g' ok hu
  · exact hu.elim
/-- what leaves nothing in a slot that one reads again is forgotten -/
theorem Good.un {L : Lk} {G0 H0 G H : Hp} {σ : L2.St} {e : List Sl} (g : Good K b L G0 H0 G H σ e) (i : Nat) : Good K b L G0 H0 G H σ (e.set i .un) where
  stp := g.stp
  slot := fun j x hx => by
    rw [get_set] at hx
    by_cases c : i = j
    · rw [if_pos c] at hx
      split at hx
      · cases hx; trivial
      · cases hx
    · rw [if_neg c] at hx; exact g.slot j x hx
  inj := fun j k t1 t2 o1 o2 c q1 q2 q3 q4 => by
    have tr : ∀ {j : Nat} {t1 : Option Addr} {o1 : OD}, (e.set i .un)[j]? = some (.own t1 o1) → e[j]? = some (.own t1 o1) := fun {j t1 o1} q => by
      rw [get_set] at q
      by_cases c : i = j
      · rw [if_pos c] at q; split at q <;> cases q
      · rw [if_neg c] at q; exact q
    exact g.inj j k _ _ _ _ c (tr q1) (tr q2) q3 q4
  bag := g.bag
  lk := g.lk
  len := by rw [List.length_set]; exact g.len
  xl := g.xl

/-! ### expressions that change an owned thing on the way -/
abbrev DX := List Sl → (R → List Sl → Prop) → Prop
def RepX (K : PySem.W.Frag) (b : Bg) (H0 : Hp) (σ : L2.St) (e : List Sl) (G H : Hp) : R → V → Prop
  | .sh d, v => Rep K G d v
  | .ow o, v => ∃ a ho, v = .ref a ∧ b.a ≠ some a ∧ Fresh H0 σ e a ∧ G a = none ∧ H a = some ho ∧ RepO K G o ho
  | .al i o, v => (∃ q, e[i]? = some (.own q o)) ∧ σ[i]? = some (some v)
def LX (K : PySem.W.Frag) (b : Bg) (t : TE) (u : DX) : Prop := ∀ (L : Lk) (G0 H0 G H : Hp) (σ : L2.St) (e : List Sl) (P : R → List Sl → Prop) (Q : VK), Good K b L G0 H0 G H σ e → u e P →
  (∀ v r e' G' H', Good K b L G0 H0 G' H' σ e' → RepX K b H0 σ e' G' H' r v → P r e' → Q v H') → t σ H Q
structure PDX (X : Cx) (b : Bg) (a : Expr) (u : DX) : Prop where
  ex : ∃ t, PE X a t ∧ LX X.K b t u
def uX (u : DE) : DX := fun e P => u e fun r => P r e
theorem Good.fresh {L : Lk} {G0 H0 G H : Hp} {σ : L2.St} {e : List Sl} (g : Good K b L G0 H0 G H σ e) {a : Addr} (hb : b.a ≠ some a) (h : H a = none) : Fresh H0 σ e a := by
  refine ⟨?_, fun j t' o' hj hs => ?_⟩
  · exact g.stp.backL a hb h
  · obtain ⟨a2, ho2, z1, _, _, _, z5, _, _⟩ := g.slot j _ hj
    rw [hs] at z1
    cases z1
    rw [h] at z5
    cases z5
theorem lx_of {t : TE} {u : DE} (h : LE K b t u) : LX K b t (uX u) := by
  intro L G0 H0 G H σ e P Q g hu k
  refine h L G0 H0 G H σ e _ Q g hu fun v r G' H' s hr p => k v r e G' H' (g.step s) ?_ p
  cases r with
  | sh d => exact hr
  | ow o =>
    obtain ⟨a, ho, h1, h2, h3, h4⟩ := hr
    exact ⟨a, ho, h1, h2, g.fresh h2 h3, h4⟩
  | al i o => exact hr
theorem PD.x {a : Expr} {u : DE} (h : PD X b a u) : PDX X b a (uX u) := by
  obtain ⟨t, p, l⟩ := h
  exact ⟨t, p, lx_of l⟩
theorem RepX.freeze {L : Lk} {G0 H0 G H : Hp} {σ : L2.St} {e : List Sl} {r : R} {v : V} {P : D → Prop} (g : Good K b L G0 H0 G H σ e) (h : RepX K b H0 σ e G H r v) (k : r.keep P) : ∃ d G', Good K b L G0 H0 G' H σ e ∧ Rep K G' d v ∧ P d := by
  cases r with
  | sh d => exact ⟨d, G, g, h, k⟩
  | al i o => exact k.elim
  | ow o =>
    obtain ⟨a, ho, rfl, h2, ⟨h3, h3'⟩, h4, h5, h6⟩ := h
    have sub := sub_upd (o := ho) h4
    refine ⟨o.d, L2.upd G a ho, ⟨⟨⟨g.stp.g.trans sub, g.stp.fr, fun c hc hu hg => ?_, fun c u hu => ?_, fun c hc h => ?_⟩, fun j x hx => ?_, g.inj, fun c hc => ?_, g.lk, g.len⟩, g.xl⟩, h6.rep h4, k⟩
    · rw [upd_ne (fun z => hu (by rw [z]; exact h3))]
      exact g.stp.new c hc hu hg
    · by_cases z : c = a
      · subst z; rw [upd_same] at hu; cases hu; exact .inl h5
      · rw [upd_ne z] at hu; exact (g.ex c u hu).mono sub
    · obtain ⟨z1, s, ns, i, n, z, z2, z3, z4⟩ := g.stp.bag c hc h
      exact ⟨by rw [upd_ne (fun z => h2 (by rw [← z]; exact hc))]; exact z1, s, ns, i, n, z, z2, sub _ _ z3, z4⟩
    · have q := g.slot j x hx
      cases x with
      | un => trivial
      | sh d => obtain ⟨v, z1, z2⟩ := q; exact ⟨v, z1, z2.mono sub⟩
      | own t2 o2 =>
        obtain ⟨a2, ho2, z1, z2, z3, z4, z5, z6, z7⟩ := q
        have ne : a2 ≠ a := fun z => by
          subst z
          exact h3' j t2 o2 hx z1
        exact ⟨a2, ho2, z1, z2, z3, by rw [upd_ne ne]; exact z4, z5, z6.mono sub, z7⟩
      | bag => exact q
    · obtain ⟨z1, s, ns, i, n, z, z2, z3, z4⟩ := g.bag c hc
      exact ⟨by rw [upd_ne (fun z => h2 (by rw [← z]; exact hc))]; exact z1, s, ns, i, n, z, z2, sub _ _ z3, z4⟩

/-! ### statements -/
/-- x = e, kept for good -/
def uSet (i : Nat) (u : DX) : DS := fun DD e => u e fun r e' => r.keep fun d => DD.nx (e'.set i (.sh d))
theorem ds_set {i : Nat} {x : Str} {a : Expr} {u : DX} {pos pos' : Pos} (h : PDX X b a u) (hN : X.N.Nodup) (hi : X.N[i]? = some x := by rfl) (hx : Loc X.env.scope x := by first | exact Or.inl rfl | exact Or.inr rfl) (hs : swapsWith a (some (.Name x pos')) pos.line X.env = pure false := by rfl)
    (hf : X.fn x = true ∨ X.env.scope.names.lookup x = some .local := by first | exact .inl rfl | exact .inr rfl | assumption) : PDS X b (.Assign [.Name x pos'] a pos) (uSet i u) := by
  obtain ⟨t, p, l⟩ := h
  refine ⟨_, ps_set hN hi hx p hs hf, ?_⟩
  intro L G0 H0 G H σ e DD D g ok hu
  refine l L G0 H0 G H σ e _ _ g hu fun v r e' G' H' g' hr q => ?_
  obtain ⟨d, G2, g2, hd, q⟩ := hr.freeze g' q
  exact ok.nx _ _ _ _ (g2.setS i hd) q
/-- x = e, e new, to be changed -/
def uOwn (i : Nat) (u : DX) : DS := fun DD e => u e fun r e' => match r with
  | .ow o => DD.nx (e'.set i (.own none o))
  | _ => False
theorem ds_own {i : Nat} {x : Str} {a : Expr} {u : DX} {pos pos' : Pos} (h : PDX X b a u) (hN : X.N.Nodup) (hi : X.N[i]? = some x := by rfl) (hx : Loc X.env.scope x := by first | exact Or.inl rfl | exact Or.inr rfl) (hs : swapsWith a (some (.Name x pos')) pos.line X.env = pure false := by rfl)
    (hf : X.fn x = true ∨ X.env.scope.names.lookup x = some .local := by first | exact .inl rfl | exact .inr rfl | assumption) : PDS X b (.Assign [.Name x pos'] a pos) (uOwn i u) := by
  obtain ⟨t, p, l⟩ := h
  refine ⟨_, ps_set hN hi hx p hs hf, ?_⟩
  intro L G0 H0 G H σ e DD D g ok hu
  refine l L G0 H0 G H σ e _ _ g hu fun v r e' G' H' g' hr q => ?_
  cases r with
  | ow o =>
    obtain ⟨a, ho, rfl, h2, h3, h4, h5, h6⟩ := hr
    exact ok.nx _ _ _ _ (g'.setO i h2 h3 h4 h5 h6) q
  | _ => exact q.elim
def R.ret : R → R
  | .al _ o => .ow o
  | r => r
def uRet (u : DX) : DS := fun DD e => u e fun r e' => DD.rt r.ret e'
theorem ds_ret {a : Expr} {u : DX} {pos : Pos} (h : PDX X b a u) : PDS X b (.Return (some a) pos) (uRet u) := by
  obtain ⟨t, p, l⟩ := h
  refine ⟨_, ps_ret p, ?_⟩
  intro L G0 H0 G H σ e DD D g ok hu
  refine l L G0 H0 G H σ e _ _ g hu fun v r e' G' H' g' hr q => ?_
  refine ok.rt G' H' σ e' v r.ret g' ?_ q
  cases r with
  | sh d => exact hr
  | ow o =>
    obtain ⟨a, ho, h1, h2, h3, h4⟩ := hr
    exact ⟨a, ho, h1, h2, h3.1, h4⟩
  | al i o =>
    obtain ⟨⟨_, h1⟩, h2⟩ := hr
    obtain ⟨a, ho, q1, q2, q3, q4, q5, q6, _⟩ := g'.slot i _ h1
    rw [h2] at q1
    cases q1
    exact ⟨a, ho, rfl, q2, q3, q4, q5, q6⟩
def uRetN : DS := fun DD e => DD.rt (.sh .non) e
theorem ds_retN {pos : Pos} : PDS X b (.Return none pos) uRetN := ⟨_, ps_retN, fun L G0 H0 G H σ e DD D g ok h => ok.rt G H σ e .non (.sh .non) g rfl h⟩
def uDrop (u : DX) : DS := fun DD e => u e fun _ e' => DD.nx e'
theorem ds_expr {a : Expr} {u : DX} {pos : Pos} (h : PDX X b a u) (hs : swapsWith a none pos.line X.env = pure false := by rfl) : PDS X b (.Expr a pos) (uDrop u) := by
  obtain ⟨t, p, l⟩ := h
  refine ⟨_, ps_expr p hs, ?_⟩
  intro L G0 H0 G H σ e DD D g ok hu
  exact l L G0 H0 G H σ e _ _ g hu fun v r e' G' H' g' hr q => ok.nx _ _ _ _ g' q
def uIf (t : DT) (u1 u2 : DS) : DS := fun DD e => t e fun c => if c = true then u1 DD e else u2 DD e
theorem ds_if {c : Expr} {s1 s2 : List Stmt} {t : DT} {u1 u2 : DS} {pos : Pos} (h : PDT X b c t) (h1 : PDSs X b s1 u1) (h2 : PDSs X b s2 u2) : PDS X b (.If c s1 s2 pos) (uIf t u1 u2) := by
  obtain ⟨tt, p, l⟩ := h
  obtain ⟨t1, p1, l1⟩ := h1
  obtain ⟨t2, p2, l2⟩ := h2
  refine ⟨_, ps_if p p1 p2, ?_⟩
  intro L G0 H0 G H σ e DD D g ok hu
  refine l L G0 H0 G H σ e _ _ g hu fun c G1 H1 s1 q => ?_
  cases c with
  | true => exact l1 L G0 H0 G1 H1 σ e DD D (g.step s1) ok q
  | false => exact l2 L G0 H0 G1 H1 σ e DD D (g.step s1) ok q
def uBrk : DS := fun DD e => DD.bk e
def uCnt : DS := fun DD e => DD.ct e
theorem ds_break {pos : Pos} : PDS X b (.Break pos) uBrk := ⟨_, ps_break, fun L G0 H0 G H σ e DD D g ok h => ok.bk G H σ e g h⟩
theorem ds_continue {pos : Pos} : PDS X b (.Continue pos) uCnt := ⟨_, ps_continue, fun L G0 H0 G H σ e DD D g ok h => ok.ct G H σ e g h⟩
theorem ds_pass {pos : Pos} : PDS X b (.Pass pos) uNext := ⟨_, ps_pass, fun L G0 H0 G H σ e DD D g ok h => ok.nx G H σ e g h⟩
def uNever : DS := fun _ _ => False
theorem ds_never {st : Stmt} : PDS X b st uNever := ⟨_, ps_never, fun L G0 H0 G H σ e DD D g ok h => h.elim⟩
/-- xs.append(e), xs owned -/
def uApp (i : Nat) (u : DX) : DS := fun DD e => (∃ q xs, nth e i = .own q (.lst xs)) ∧ u e fun r e' => r.keep fun d => ∃ q xs, nth e' i = .own q (.lst xs) ∧ xs.length < 1000000 ∧ DD.nx (e'.set i (.own q (.lst (xs ++ [d]))))
theorem not_frz_lst {H : Hp} {a : Addr} {vs : List V} (h : H a = some (.lst vs)) : ∀ od u, H a ≠ some (.frz od u) := fun od u z => by rw [h] at z; cases z
theorem Good.ownL {L : Lk} {G0 H0 G H : Hp} {σ : L2.St} {e : List Sl} (g : Good K b L G0 H0 G H σ e) {i : Nat} {q : Option Addr} {xs : List D} (h : nth e i = .own q (.lst xs)) : e[i]? = some (.own q (.lst xs)) ∧ ∃ a vs, σ[i]? = some (some (.ref a)) ∧ H a = some (.lst vs) ∧ RepL K G xs vs := by
  have hi := nth_get h (by simp)
  obtain ⟨a, ho, h1, _, _, _, h5, ⟨vs, rfl, h7⟩, _⟩ := g.slot i _ hi
  exact ⟨hi, a, vs, h1, h5, h7⟩
theorem ds_append {i : Nat} {x : Str} {a : Expr} {u : DX} {px apos cpos pos : Pos} (h : PDX X b a u) (hN : X.N[i]? = some x := by rfl) (hv : Vis X.env.scope x := by first | exact Or.inl rfl | exact Or.inr (Or.inl rfl) | exact Or.inr (Or.inr rfl))
    (hd : (x == ("__debug__" : Str)) = false := by decide) (hcd : (x == ("__classdict__" : Str)) = false := by decide) (hw : swapsWith (.Call (.Attribute (.Name x px) "append" apos) [a] [] cpos) none pos.line X.env = pure false := by rfl)
    (hs : starEach (a :: []) X.env = (false, eval a X.env) :: starEach [] X.env := by rfl)
    (hbm : ∀ {te : TE}, PE X a te → PE X (.Call (.Attribute (.Name x px) "append" apos) [a] [] cpos) (tBM X.K "list" rAppend (tVar i) (tCons te tNil)) := by
      exact fun hp => pe_bm PySem.F.plainAttrs_list PySem.F.slot_list_append PySem.F.type_list_append mt_append (pe_var (by rfl) (by first | exact Or.inl rfl | exact Or.inr (Or.inl rfl) | exact Or.inr (Or.inr rfl))) (pa_cons hp pa_nil)) :
    PDS X b (.Expr (.Call (.Attribute (.Name x px) "append" apos) [a] [] cpos) pos) (uApp i u) := by
  obtain ⟨t, p, l⟩ := h
  refine ⟨_, ps_expr (hbm p) hw, ?_⟩
  intro L G0 H0 G H σ e DD D g ok hu
  obtain ⟨⟨_, xs, hxs⟩, hu⟩ := hu
  obtain ⟨hi, a, vs, q1, q2, q3⟩ := g.ownL hxs
  refine ⟨_, q1, Or.inl ⟨rfl, vs, SqL.of q2⟩, ?_⟩
  refine l L G0 H0 G H σ e _ _ g hu fun v r e' G' H' g' hr q => ?_
  obtain ⟨d, G2, g2, hd, _, ys, hys, hl, q⟩ := hr.freeze g' q
  obtain ⟨hi', a', ws, z1, z2, z3⟩ := g2.ownL hys
  rw [q1] at z1
  cases z1
  refine ⟨a, ws, v, rfl, rfl, z2, by rw [z3.length]; exact lt_line hl, ?_⟩
  exact ok.nx _ _ _ _ (g2.upd hi' q1 (not_frz_lst z2) (o' := .lst (ys ++ [d])) ⟨_, rfl, z3.append (RepL.one hd)⟩) q
/-- xs.pop(), xs owned -/
def uPop (i : Nat) : DX := fun e P => ∃ q xs y, nth e i = .own q (.lst (xs ++ [y])) ∧ P (.sh y) (e.set i (.own q (.lst xs)))
theorem dx_pop {i : Nat} {x : Str} {px apos cpos : Pos} (hN : X.N[i]? = some x := by rfl) (hv : Vis X.env.scope x := by first | exact Or.inl rfl | exact Or.inr (Or.inl rfl) | exact Or.inr (Or.inr rfl))
    (hbm : PE X (.Call (.Attribute (.Name x px) "pop" apos) [] [] cpos) (tBM0 X.K "list" rPop (tVar i)) := by
      exact pe_bm0 PySem.F.plainAttrs_list PySem.F.slot_list_pop PySem.F.type_list_pop mt_pop (pe_var (by rfl) (by first | exact Or.inl rfl | exact Or.inr (Or.inl rfl) | exact Or.inr (Or.inr rfl)))) :
    PDX X b (.Call (.Attribute (.Name x px) "pop" apos) [] [] cpos) (uPop i) := by
  refine ⟨_, hbm, ?_⟩
  intro L G0 H0 G H σ e P Q g hu k
  obtain ⟨_, xs, y, hxs, hp⟩ := hu
  obtain ⟨hi, a, vs, q1, q2, q3⟩ := g.ownL hxs
  have hl := q3.length
  rw [List.length_append, List.length_singleton] at hl
  obtain ⟨v, hv1, hv2⟩ := q3.get (i := xs.length) (x := y) (by simp)
  refine ⟨_, q1, Or.inl ⟨rfl, vs, SqL.of q2⟩, a, vs, v, rfl, rfl, q2, ?_, ?_⟩
  · rw [hl]; exact hv1
  · have e : vs.dropLast = vs.take xs.length := by rw [List.dropLast_eq_take, hl]; rfl
    have r : RepL X.K G xs vs.dropLast := by
      rw [e]
      have := q3.take xs.length
      rwa [List.take_left' rfl] at this
    exact k v (.sh y) _ G _ (g.upd hi q1 (not_frz_lst q2) (o' := .lst xs) ⟨_, rfl, r⟩) hv2 hp
/-- xs.pop(k), xs owned -/
def uPopAt (i : Nat) (u : DE) : DX := fun e P => (∃ q xs, nth e i = .own q (.lst xs)) ∧ u e fun r => ∃ (n : Nat) (q : Option Addr) (xs : List D) (y : D), r = .sh (.int n) ∧ nth e i = .own q (.lst xs) ∧ xs.length ≤ 1000000 ∧ xs[n]? = some y ∧ P (.sh y) (e.set i (.own q (.lst (xs.eraseIdx n))))
theorem dx_popAt {i : Nat} {x : Str} {a : Expr} {u : DE} {px apos cpos : Pos} (h : PD X b a u) (hN : X.N[i]? = some x := by rfl) (hv : Vis X.env.scope x := by first | exact Or.inl rfl | exact Or.inr (Or.inl rfl) | exact Or.inr (Or.inr rfl))
    (hbm : ∀ {te : TE}, PE X a te → PE X (.Call (.Attribute (.Name x px) "pop" apos) [a] [] cpos) (tBM X.K "list" rPopAt (tVar i) (tCons te tNil)) := by
      exact fun hp => pe_bm PySem.F.plainAttrs_list PySem.F.slot_list_pop PySem.F.type_list_pop mt_popAt (pe_var (by rfl) (by first | exact Or.inl rfl | exact Or.inr (Or.inl rfl) | exact Or.inr (Or.inr rfl))) (pa_cons hp pa_nil)) :
    PDX X b (.Call (.Attribute (.Name x px) "pop" apos) [a] [] cpos) (uPopAt i u) := by
  obtain ⟨t, p, l⟩ := h
  refine ⟨_, hbm p, ?_⟩
  intro L G0 H0 G H σ e P Q g hu k
  obtain ⟨⟨_, xs, hxs⟩, hu⟩ := hu
  obtain ⟨hi, a, vs, q1, q2, q3⟩ := g.ownL hxs
  refine ⟨_, q1, Or.inl ⟨rfl, vs, SqL.of q2⟩, ?_⟩
  refine l L G0 H0 G H σ e _ _ g hu fun v r G' H' s hr q => ?_
  obtain ⟨n, _, ys, y, rfl, hys, hz, hy, hp⟩ := q
  have g' := g.step s
  obtain ⟨hi', a', ws, z1, z2, z3⟩ := g'.ownL hys
  rw [q1] at z1
  cases z1
  cases hr
  have hn := get_lt hy
  obtain ⟨v, hv1, hv2⟩ := z3.get hy
  refine ⟨a, ws, (n : Int), n, v, rfl, rfl, z2, by omega, by omega, ?_, hv1, ?_⟩
  · rw [seqIndex_of (by omega) (by rw [z3.length]; omega)]; simp
  · exact k v (.sh y) _ G' _ (g'.upd hi' q1 (not_frz_lst z2) (o' := .lst (ys.eraseIdx n)) ⟨_, rfl, z3.eraseIdx n⟩) hv2 hp
/-- xs[i] = e, xs owned -/
def uSetIx (i : Nat) (ui : DE) (u : DX) : DS := fun DD e => u e fun r e' => r.keep fun d => (∃ q xs, nth e' i = .own q (.lst xs)) ∧ ui e' fun k => ∃ (n : Nat) (q : Option Addr) (xs : List D), k = .sh (.int n) ∧ nth e' i = .own q (.lst xs) ∧ n < xs.length ∧ DD.nx (e'.set i (.own q (.lst (xs.set n d))))
theorem ds_setIx {i : Nat} {x : Str} {k a : Expr} {ui : DE} {u : DX} {px p2 pos : Pos} (hk : PD X b k ui) (h : PDX X b a u) (hN : X.N[i]? = some x := by rfl) (hv : Vis X.env.scope x := by first | exact Or.inl rfl | exact Or.inr (Or.inl rfl) | exact Or.inr (Or.inr rfl))
    (hd : (x == ("__debug__" : Str)) = false := by decide) (hcd : (x == ("__classdict__" : Str)) = false := by decide)
    (hm : ∀ {te ti : TE}, PE X a te → PE X k ti → PS X (.Assign [.Subscript (.Name x px) k p2] a pos) (tAsg te (gSub (tVar i) ti rSetL)) := by exact fun h1 h2 => ps_asg h1 (pg_sub (pe_var (by rfl) (by first | exact Or.inl rfl | exact Or.inr (Or.inl rfl) | exact Or.inr (Or.inr rfl))) h2 set_list)) :
    PDS X b (.Assign [.Subscript (.Name x px) k p2] a pos) (uSetIx i ui u) := by
  obtain ⟨t, p, l⟩ := h
  obtain ⟨ti, pi, li⟩ := hk
  refine ⟨_, hm p pi, ?_⟩
  intro L G0 H0 G H σ e DD D g ok hu
  refine l L G0 H0 G H σ e _ _ g hu fun v r e' G' H' g' hr q => ?_
  obtain ⟨d, G2, g2, hd, q⟩ := hr.freeze g' q
  obtain ⟨⟨_, ys, hys⟩, q⟩ := q
  obtain ⟨_, a, vs, q1, _⟩ := g2.ownL hys
  refine ⟨_, q1, ?_⟩
  refine li L G0 H0 G2 H' σ e' _ _ g2 q fun v3 r3 G3 H3 s3 hr3 q3 => ?_
  obtain ⟨n, _, xs, rfl, hx, hn, q3⟩ := q3
  have g3 := g2.step s3
  obtain ⟨hi, a', ws, z1, z2, z3⟩ := g3.ownL hx
  rw [q1] at z1
  cases z1
  cases hr3
  refine ⟨a, ws, (n : Int), n, rfl, rfl, z2, ?_, ?_⟩
  · rw [z3.length]
    unfold ixN
    rw [if_pos (by omega), if_pos (by omega)]
    simp
  · exact ok.nx _ _ _ _ (g3.upd hi q1 (not_frz_lst z2) (o' := .lst (xs.set n d)) ⟨_, rfl, RepL.set (hd.mono s3.g) n z3⟩) q3
/-- a, b = e1, e2: two local names -/
def R.into (own : Bool) (P : Sl → Prop) : R → Prop
  | .sh d => own = false ∧ P (.sh d)
  | .ow o => if own = true then P (.own none o) else P (.sh o.d)
  | .al _ _ => False
end
end DL
namespace DL
open PySem L2
section
variable {X : Cx} {b : Bg} {K : PySem.W.Frag}
/-! ### what is walked -/
abbrev DI := List Sl → (List D → Prop) → Prop
def JOk (K : PySem.W.Frag) (b : Bg) (L : Lk) (G1 : Hp) (J : It) (xs : List D) : Prop := ∀ G H, Sub G1 G → Ex G H → (∀ a od u, (a, od, u) ∈ L → H a = some (.frz od u)) → ∀ i : Nat,
  (∀ x, xs[i]? = some x → J.go i H ∧ ∀ v H', J.yld i H v H' → ∃ G', Stp b [] G H G' H' ∧ Rep K G' x v) ∧ (xs.length ≤ i → J.stop i H)
def LI (K : PySem.W.Frag) (b : Bg) (wi : TI) (ui : DI) : Prop := ∀ (L : Lk) (G0 H0 G H : Hp) (σ : L2.St) (e : List Sl) (P : List D → Prop) (Q : It → Hp → Prop), Good K b L G0 H0 G H σ e → ui e P →
  (∀ J xs G' H', Stp b [] G H G' H' → JOk K b L G' J xs → P xs → Q J H') → wi σ H Q
structure PDI (X : Cx) (b : Bg) (tg it : Expr) (ui : DI) : Prop where
  ex : ∃ wi, PI X tg it wi ∧ LI X.K b wi ui
theorem pi_or {tg it : Expr} {w1 w2 : TI} (h1 : PI X tg it w1) (h2 : PI X tg it w2) : PI X tg it (fun σ H R => w1 σ H R ∨ w2 σ H R) :=
  ⟨fun pins s σ H R I h => h.elim (h1.run pins s σ H R I) (h2.run pins s σ H R I)⟩
theorem ex_lst {G H : Hp} (e : Ex G H) {a : Addr} {vs : List V} (h : G a = some (.lst vs)) : H a = some (.lst vs) := by
  rcases Ex.old e _ _ h with z | ⟨_, _, z, _⟩
  · exact z
  · cases z
theorem ex_tup {G H : Hp} (e : Ex G H) {a : Addr} {vs : List V} (h : G a = some (.tup vs) ∨ WT K a vs) : SqT K H a vs := by
  rcases h with h | h
  · rcases Ex.old e _ _ h with z | ⟨_, _, z, _⟩
    · exact SqT.of z
    · cases z
  · exact .inr h
theorem vs_none {G : Hp} {xs : List D} {vs : List V} (h : RepL K G xs vs) {i : Nat} (hi : xs.length ≤ i) : vs.length ≤ i := by rw [h.length]; exact hi
theorem jok_list {L : Lk} {G1 : Hp} {a : Addr} {vs : List V} {xs : List D} (h : G1 a = some (.lst vs)) (hr : RepL K G1 xs vs) : JOk K b L G1 (Itl K a) xs := fun G H sub ex _ i => by
  have q : SqL K H a vs := SqL.of (ex_lst ex (sub _ _ h))
  refine ⟨fun x hx => ?_, fun hi => ⟨vs, q, vs_none hr hi⟩⟩
  obtain ⟨v, hv, hd⟩ := (hr.mono sub).get hx
  refine ⟨⟨vs, v, q, hv⟩, fun w H' hy => ?_⟩
  obtain ⟨rfl, hy⟩ := hy
  have z := hy vs q
  rw [hv] at z
  cases z
  exact ⟨G, Stp.refl ex, hd⟩
theorem jok_tup {L : Lk} {G1 : Hp} {a : Addr} {vs : List V} {xs : List D} (h : G1 a = some (.tup vs) ∨ WT K a vs) (hr : RepL K G1 xs vs) : JOk K b L G1 (Itt K a) xs := fun G H sub ex _ i => by
  have q : SqT K H a vs := ex_tup ex (h.imp (sub _ _) id)
  refine ⟨fun x hx => ?_, fun hi => ⟨vs, q, vs_none hr hi⟩⟩
  obtain ⟨v, hv, hd⟩ := (hr.mono sub).get hx
  refine ⟨⟨vs, v, q, hv⟩, fun w H' hy => ?_⟩
  obtain ⟨rfl, hy⟩ := hy
  have z := hy vs q
  rw [hv] at z
  cases z
  exact ⟨G, Stp.refl ex, hd⟩
def signs (s : Str) : List D := s.cps.toList.map fun c => .str (sign c)
theorem jok_str {L : Lk} {G1 : Hp} {s : Str} : JOk K b L G1 (Its s) (signs s) := fun G H sub ex _ i => by
  refine ⟨fun x hx => ?_, fun hi => ?_⟩
  · have hl := get_lt hx
    unfold signs at hx hl
    rw [List.length_map] at hl
    refine ⟨(by simpa using hl : i < s.cps.size), fun w H' hy => ?_⟩
    obtain ⟨rfl, c, hc, rfl⟩ := hy
    rw [List.getElem?_map] at hx
    have e : s.cps.toList[i]? = some c := by simpa using hc
    rw [e] at hx
    cases hx
    exact ⟨G, Stp.refl ex, rfl⟩
  · unfold signs at hi
    rw [List.length_map] at hi
    show s.cps.size ≤ i
    simpa using hi

def asL (P : List D → Prop) : D → Prop
  | .lst xs => P xs
  | _ => False
def asT (P : List D → Prop) : D → Prop
  | .tup xs => P xs
  | _ => False
def asS (P : List D → Prop) : D → Prop
  | .str s => P (signs s)
  | _ => False
def uItL (u : DE) : DI := fun e P => u e (R.keep (asL P))
def uItT (u : DE) : DI := fun e P => u e (R.keep (asT P))
def uItS (u : DE) : DI := fun e P => u e (R.keep (asS P))
theorem asL_of {P : List D → Prop} {d : D} (h : asL P d) : ∃ xs, d = .lst xs ∧ P xs := by cases d <;> first | exact ⟨_, rfl, h⟩ | exact h.elim
theorem asT_of {P : List D → Prop} {d : D} (h : asT P d) : ∃ xs, d = .tup xs ∧ P xs := by cases d <;> first | exact ⟨_, rfl, h⟩ | exact h.elim
theorem asS_of {P : List D → Prop} {d : D} (h : asS P d) : ∃ s, d = .str s ∧ P (signs s) := by cases d <;> first | exact ⟨_, rfl, h⟩ | exact h.elim
theorem di_list {tg a : Expr} {u : DE} (h : PD X b a u) : PDI X b tg a (uItL u) := by
  obtain ⟨t, p, l⟩ := h
  refine ⟨_, pi_list p, ?_⟩
  intro L G0 H0 G H σ e P Q g hu k
  refine l L G0 H0 G H σ e _ _ g hu fun v r G1 H1 s1 hr q => ?_
  obtain ⟨d, G2, s2, hd, q⟩ := hr.freeze s1 q
  obtain ⟨xs, rfl, q⟩ := asL_of q
  obtain ⟨a, vs, rfl, ha, hr⟩ := hd
  exact ⟨a, rfl, ⟨vs, SqL.of (ex_lst s2.ex ha)⟩, k _ _ G2 H1 s2 (jok_list ha hr) q⟩
theorem di_tup {tg a : Expr} {u : DE} (h : PD X b a u) : PDI X b tg a (uItT u) := by
  obtain ⟨t, p, l⟩ := h
  refine ⟨_, pi_tup p, ?_⟩
  intro L G0 H0 G H σ e P Q g hu k
  refine l L G0 H0 G H σ e _ _ g hu fun v r G1 H1 s1 hr q => ?_
  obtain ⟨d, G2, s2, hd, q⟩ := hr.freeze s1 q
  obtain ⟨xs, rfl, q⟩ := asT_of q
  obtain ⟨a, vs, rfl, ha, hr⟩ := hd
  exact ⟨a, rfl, ⟨vs, ex_tup s2.ex ha⟩, k _ _ G2 H1 s2 (jok_tup ha hr) q⟩
theorem di_str {tg a : Expr} {u : DE} (h : PD X b a u) : PDI X b tg a (uItS u) := by
  obtain ⟨t, p, l⟩ := h
  refine ⟨_, pi_str p, ?_⟩
  intro L G0 H0 G H σ e P Q g hu k
  refine l L G0 H0 G H σ e _ _ g hu fun v r G1 H1 s1 hr q => ?_
  obtain ⟨d, G2, s2, hd, q⟩ := hr.freeze s1 q
  obtain ⟨s, rfl, q⟩ := asS_of q
  cases hd
  exact ⟨s, rfl, k _ _ G2 H1 s2 jok_str q⟩
/-- the numbers lo, lo + 1, .. -/
def nums (lo : Int) (n : Nat) : List D := (List.range n).map fun (i : Nat) => .int (lo + (i : Int))
theorem nums_len (lo : Int) (n : Nat) : (nums lo n).length = n := by unfold nums; simp
theorem nums_get {lo : Int} {n i : Nat} {x : D} (h : (nums lo n)[i]? = some x) : i < n ∧ x = .int (lo + (i : Int)) := by
  have hl := get_lt h
  rw [nums_len] at hl
  unfold nums at h
  rw [List.getElem?_map, List.getElem?_range hl] at h
  cases h
  exact ⟨hl, rfl⟩
theorem jok_rng {L : Lk} {G1 : Hp} {lo : Int} {n : Nat} : JOk K b L G1 (Itr lo n) (nums lo n) := fun G H sub ex _ i => by
  refine ⟨fun x hx => ?_, fun hi => ?_⟩
  · obtain ⟨h1, rfl⟩ := nums_get hx
    refine ⟨h1, fun w H' hy => ?_⟩
    obtain ⟨rfl, rfl⟩ := hy
    exact ⟨G, Stp.refl ex, rfl⟩
  · rw [nums_len] at hi; exact hi
def uR1 (ua : DA) : DI := fun e P => ua e fun ds => ∃ n : Int, ds = [.int n] ∧ -1000000 ≤ n ∧ n ≤ 1000000 ∧ P (nums 0 n.toNat)
def uR2 (ua : DA) : DI := fun e P => ua e fun ds => ∃ lo n : Int, ds = [.int lo, .int n] ∧ (-1000000 ≤ lo ∧ lo ≤ 1000000 ∧ -1000000 ≤ n ∧ n ≤ 1000000) ∧ P (nums lo (n - lo).toNat)
theorem di_range1 {tg a : Expr} {ua : DA} {p pos : Pos} (hm : X.mg "range" = none) (ha : PDA X b [a] ua) (hg : Gl X "range" := by rfl) (hs : starEach [a] X.env = [(false, eval a X.env)] := by rfl) : PDI X b tg (.Call (.Name "range" p) [a] [] pos) (uR1 ua) := by
  obtain ⟨t, p, l⟩ := ha
  refine ⟨_, pi_range1 hg hm p hs, ?_⟩
  intro L G0 H0 G H σ e P Q g hu k
  refine l L G0 H0 G H σ e _ _ g hu fun vs ds G1 H1 s1 hr q => ?_
  obtain ⟨n, rfl, h1, h2, q⟩ := q
  obtain ⟨v, r, rfl, hv, hr⟩ := hr
  cases hv
  cases hr
  exact ⟨n, rfl, by omega, by omega, k _ _ G1 H1 s1 jok_rng q⟩
theorem di_range2 {tg a c : Expr} {ua : DA} {p pos : Pos} (hm : X.mg "range" = none) (ha : PDA X b [a, c] ua) (hg : Gl X "range" := by rfl) (hs : starEach [a, c] X.env = [(false, eval a X.env), (false, eval c X.env)] := by rfl) (hs2 : starEach [c] X.env = [(false, eval c X.env)] := by rfl) :
    PDI X b tg (.Call (.Name "range" p) [a, c] [] pos) (uR2 ua) := by
  obtain ⟨t, p, l⟩ := ha
  refine ⟨_, pi_range2 hg hm p hs hs2, ?_⟩
  intro L G0 H0 G H σ e P Q g hu k
  refine l L G0 H0 G H σ e _ _ g hu fun vs ds G1 H1 s1 hr q => ?_
  obtain ⟨lo, n, rfl, h, q⟩ := q
  obtain ⟨v, r, rfl, hv, hr⟩ := hr
  cases hv
  obtain ⟨v, r, rfl, hv, hr⟩ := hr
  cases hv
  cases hr
  exact ⟨lo, n, rfl, ⟨by omega, by omega, by omega, by omega⟩, k _ _ G1 H1 s1 jok_rng q⟩
/-- enumerate(xs), zip(xs, ys) -/
def enums (xs : List D) : List D := (List.range xs.length).zipWith (fun (i : Nat) x => .tup [.int (i : Int), x]) xs
theorem enums_get {xs : List D} {i : Nat} {y : D} (h : (enums xs)[i]? = some y) : ∃ x, xs[i]? = some x ∧ y = .tup [.int (i : Int), x] := by
  unfold enums at h
  rw [List.getElem?_zipWith] at h
  cases e : xs[i]? with
  | none => rw [e] at h; cases q : (List.range xs.length)[i]? <;> rw [q] at h <;> cases h
  | some x =>
    rw [e, List.getElem?_range (get_lt e)] at h
    cases h
    exact ⟨x, rfl, rfl⟩
theorem enums_len (xs : List D) : (enums xs).length = xs.length := by unfold enums; simp
theorem jok_enum {L : Lk} {G1 : Hp} {a : Addr} {vs : List V} {xs : List D} (h : G1 a = some (.lst vs)) (hr : RepL K G1 xs vs) : JOk K b L G1 (Ite K a) (enums xs) := fun G H sub ex _ i => by
  have q : SqL K H a vs := SqL.of (ex_lst ex (sub _ _ h))
  refine ⟨fun y hy => ?_, fun hi => ⟨vs, q, vs_none hr (by rw [enums_len] at hi; exact hi)⟩⟩
  obtain ⟨x, hx, rfl⟩ := enums_get hy
  obtain ⟨v, hv, hd⟩ := (hr.mono sub).get hx
  refine ⟨⟨vs, v, q, hv⟩, fun w H' hy => ?_⟩
  obtain ⟨T, z, rfl, hT, rfl, hz⟩ := hy
  have e := hz vs q
  rw [hv] at e
  cases e
  have s := sub_upd (o := .tup [.int (i : Int), v]) (ex.none hT)
  exact ⟨_, Stp.laid ex hT, T, _, rfl, .inl upd_same, _, _, rfl, rfl, _, _, rfl, hd.mono s, rfl⟩
def uEnum (u : DE) : DI := fun e P => u e (R.keep (asL fun xs => P (enums xs)))
theorem di_enum {a : Expr} {u : DE} {p pos tpos : Pos} {elts : List Expr} {kk : Nat} (hm : X.mg "enumerate" = none) (h : PD X b a u) (hg : Gl X "enumerate" := by rfl) (hs : starEach [a] X.env = [(false, eval a X.env)] := by rfl) : PDI X b (.Tuple elts kk tpos) (.Call (.Name "enumerate" p) [a] [] pos) (uEnum u) := by
  obtain ⟨t, p, l⟩ := h
  refine ⟨_, pi_enum hg hm (pa_cons p pa_nil hs) hs, ?_⟩
  intro L G0 H0 G H σ e P Q g hu k
  refine l L G0 H0 G H σ e _ _ g hu fun v r G1 H1 s1 hr q => ?_
  obtain ⟨d, G2, s2, hd, q⟩ := hr.freeze s1 q
  obtain ⟨xs, rfl, q⟩ := asL_of q
  obtain ⟨a, vs, rfl, ha, hr⟩ := hd
  exact ⟨a, vs, rfl, SqL.of (ex_lst s2.ex ha), k _ _ G2 H1 s2 (jok_enum ha hr) q⟩
def zips (xs ys : List D) : List D := xs.zipWith (fun x y => .tup [x, y]) ys
theorem zips_get {xs ys : List D} {i : Nat} {z : D} (h : (zips xs ys)[i]? = some z) : ∃ x y, xs[i]? = some x ∧ ys[i]? = some y ∧ z = .tup [x, y] := by
  unfold zips at h
  rw [List.getElem?_zipWith] at h
  cases e : xs[i]? with
  | none => rw [e] at h; cases h
  | some x =>
    cases e' : ys[i]? with
    | none => rw [e, e'] at h; cases h
    | some y => rw [e, e'] at h; cases h; exact ⟨x, y, rfl, rfl, rfl⟩
theorem jok_zip {L : Lk} {G1 : Hp} {a c : Addr} {vs ws : List V} {xs ys : List D} (h : G1 a = some (.lst vs)) (hr : RepL K G1 xs vs) (h' : G1 c = some (.lst ws)) (hr' : RepL K G1 ys ws) : JOk K b L G1 (Itz K a c) (zips xs ys) := fun G H sub ex _ i => by
  have q : SqL K H a vs := SqL.of (ex_lst ex (sub _ _ h))
  have q' : SqL K H c ws := SqL.of (ex_lst ex (sub _ _ h'))
  refine ⟨fun y hy => ?_, fun hi => ⟨vs, ws, q, q', ?_⟩⟩
  · obtain ⟨x, y, hx, hx', rfl⟩ := zips_get hy
    obtain ⟨v, hv, hd⟩ := (hr.mono sub).get hx
    obtain ⟨w, hw, hd'⟩ := (hr'.mono sub).get hx'
    refine ⟨⟨vs, ws, v, w, q, q', hv, hw⟩, fun u H' hy => ?_⟩
    obtain ⟨T, z, z', rfl, hT, rfl, hz, hz'⟩ := hy
    have e := hz vs q
    have e' := hz' ws q'
    rw [hv] at e
    rw [hw] at e'
    cases e
    cases e'
    have s := sub_upd (o := .tup [v, w]) (ex.none hT)
    exact ⟨_, Stp.laid ex hT, T, _, rfl, .inl upd_same, _, _, rfl, hd.mono s, _, _, rfl, hd'.mono s, rfl⟩
  · rw [hr.length, hr'.length]
    unfold zips at hi
    rw [List.length_zipWith] at hi
    omega
/-! ### targets -/
abbrev DG := D → List Sl → (List Sl → Prop) → Prop
abbrev DGs := List D → List Sl → (List Sl → Prop) → Prop
def LG (K : PySem.W.Frag) (b : Bg) (js : List Nat) (t : TG) (ug : DG) : Prop := ∀ (L : Lk) (G0 H0 G H : Hp) (σ : L2.St) (e : List Sl) (d : D) (v : V) (P : List Sl → Prop) (Q : L2.St → Hp → Prop), Good K b L G0 H0 G H σ e → Rep K G d v → ug d e P →
  (∀ σ' e', Good K b L G0 H0 G H σ' e' → (∀ vs : List Nat, (∀ j ∈ js, j ∈ vs) → wipe σ' vs = wipe σ vs) → P e' → Q σ' H) → t v σ H Q
def LGs (K : PySem.W.Frag) (b : Bg) (js : List Nat) (t : TGs) (ug : DGs) : Prop := ∀ (L : Lk) (G0 H0 G H : Hp) (σ : L2.St) (e : List Sl) (ds : List D) (vs : List V) (P : List Sl → Prop) (Q : L2.St → Hp → Prop), Good K b L G0 H0 G H σ e → RepL K G ds vs → ug ds e P →
  (∀ σ' e', Good K b L G0 H0 G H σ' e' → (∀ vs : List Nat, (∀ j ∈ js, j ∈ vs) → wipe σ' vs = wipe σ vs) → P e' → Q σ' H) → t vs σ H Q
structure PDG (X : Cx) (b : Bg) (tg : Expr) (js : List Nat) (ug : DG) : Prop where
  ex : ∃ t, PG X tg t ∧ LG X.K b js t ug
structure PDGs (X : Cx) (b : Bg) (tgs : List Expr) (js : List Nat) (ug : DGs) : Prop where
  ex : ∃ t, PGs X tgs t ∧ LGs X.K b js t ug
theorem wipe_set {σ : L2.St} {j : Nat} {x : Option V} : ∀ {vs : List Nat}, j ∈ vs → wipe (σ.set j x) vs = wipe σ vs
  | [], h => by cases h
  | v :: vs, h => by
    unfold wipe
    by_cases c : j ∈ vs
    · rw [wipe_set c]
    · have e : j = v := by
        rcases List.mem_cons.mp h with z | z
        · exact z
        · exact absurd z c
      subst e
      have q : ∀ {ws : List Nat}, j ∉ ws → wipe (σ.set j x) ws = (wipe σ ws).set j x := by
        intro ws
        induction ws with
        | nil => intro _; rfl
        | cons w ws ih =>
          intro h
          unfold wipe
          rw [ih (fun z => h (List.mem_cons_of_mem _ z)), List.set_comm _ _ (fun z => h (by rw [z]; exact List.mem_cons_self))]
      rw [q c, List.set_set]
def gNm (i : Nat) : DG := fun d e P => P (e.set i (.sh d))
theorem dg_name {i : Nat} {x : Str} {pos : Pos} (hN : X.N.Nodup) (hi : X.N[i]? = some x := by rfl) (hx : Loc X.env.scope x := by first | exact Or.inl rfl | exact Or.inr rfl) (hf : X.fn x = true ∨ X.env.scope.names.lookup x = some .local := by first | exact .inl rfl | exact .inr rfl | assumption) :
    PDG X b (.Name x pos) [i] (gNm i) := by
  refine ⟨_, pg_name hN hi hx hf, ?_⟩
  intro L G0 H0 G H σ e d v P Q g hd hu k
  exact k _ _ (g.setS i hd) (fun vs h => wipe_set (h i List.mem_cons_self)) hu
def gsNil : DGs := fun ds e P => ds = [] ∧ P e
def gsCons (g : DG) (gs : DGs) : DGs := fun ds e P => match ds with
  | d :: ds => g d e fun e' => gs ds e' P
  | [] => False
theorem dgs_nil : PDGs X b [] [] gsNil := by
  refine ⟨_, pgs_nil, ?_⟩
  intro L G0 H0 G H σ e ds vs P Q g hd hu k
  obtain ⟨rfl, hu⟩ := hu
  cases hd
  exact ⟨rfl, k σ e g (fun _ _ => rfl) hu⟩
theorem dgs_cons {a : Expr} {es : List Expr} {js ks : List Nat} {ug : DG} {ugs : DGs} (h1 : PDG X b a js ug) (h2 : PDGs X b es ks ugs) (hs : (assignEach (a :: es) X.env).map (·.2) = assign a X.env :: (assignEach es X.env).map (·.2) := by rfl) : PDGs X b (a :: es) (js ++ ks) (gsCons ug ugs) := by
  obtain ⟨t1, p1, l1⟩ := h1
  obtain ⟨t2, p2, l2⟩ := h2
  refine ⟨_, pgs_cons p1 p2 hs, ?_⟩
  intro L G0 H0 G H σ e ds vs P Q g hd hu k
  cases ds with
  | nil => exact hu.elim
  | cons d ds =>
    obtain ⟨v, r, rfl, hv, hr⟩ := hd
    refine ⟨v, r, rfl, ?_⟩
    refine l1 L G0 H0 G H σ e d v _ _ g hv hu fun σ1 e1 g1 w1 q1 => ?_
    refine l2 L G0 H0 G H σ1 e1 ds r _ _ g1 hr q1 fun σ2 e2 g2 w2 q2 => ?_
    exact k σ2 e2 g2 (fun vs h => (w2 vs fun j hj => h j (List.mem_append_right _ hj)).trans (w1 vs fun j hj => h j (List.mem_append_left _ hj))) q2
def gTp (gs : DGs) : DG := fun d e P => match d with
  | .tup ds => gs ds e P
  | _ => False
theorem dg_tup {es : List Expr} {k n : Nat} {js : List Nat} {ugs : DGs} {pos : Pos} (h : PDGs X b es js ugs) (hl : ∀ ds e P, ugs ds e P → ds.length = n) (hc : X.calm = true := by rfl) (hn : (assignEach es X.env).length = n := by rfl) (hst : (assignEach es X.env).findIdx? (·.1) = none := by rfl) :
    PDG X b (.Tuple es k pos) js (gTp ugs) := by
  obtain ⟨t, p, l⟩ := h
  refine ⟨_, pg_tup hc p hn hst, ?_⟩
  intro L G0 H0 G H σ e d v P Q g hd hu kk
  unfold gTp at hu
  split at hu
  · rename_i ds
    obtain ⟨a, vs, rfl, ha, hr⟩ := hd
    exact ⟨a, vs, rfl, ex_tup g.ex ha, by rw [hr.length]; exact hl _ _ _ hu, l L G0 H0 G H σ e ds vs P Q g hr hu kk⟩
  · exact hu.elim
/-- a target reaches some slots | a row of targets wants so many -/
def GX (g : DG) : Prop := ∀ d e P, g d e P → ∃ e', P e'
def GXs (g : DGs) : Prop := ∀ d e P, g d e P → ∃ e', P e'
def GL (g : DGs) (n : Nat) : Prop := ∀ ds e P, g ds e P → ds.length = n
theorem gx_name {i : Nat} : GX (gNm i) := fun d e P h => ⟨_, h⟩
theorem gxs_nil : GXs gsNil := fun d e P h => ⟨e, h.2⟩
theorem gxs_cons {g : DG} {gs : DGs} (h1 : GX g) (h2 : GXs gs) : GXs (gsCons g gs) := fun ds e P h => by
  cases ds with
  | nil => exact h.elim
  | cons d ds =>
    obtain ⟨e', h'⟩ := h1 d e _ h
    exact h2 ds e' P h'
theorem gx_tup {gs : DGs} (h : GXs gs) : GX (gTp gs) := fun d e P q => by
  cases d with
  | tup ds => exact h ds e P q
  | _ => exact q.elim
theorem gl_nil : GL gsNil 0 := fun ds e P h => by rw [h.1]; rfl
theorem gl_cons {g : DG} {gs : DGs} {n : Nat} (h1 : GX g) (h2 : GL gs n) : GL (gsCons g gs) (n + 1) := fun ds e P h => by
  cases ds with
  | nil => exact h.elim
  | cons d ds =>
    obtain ⟨e', h'⟩ := h1 d e _ h
    rw [List.length_cons, h2 ds e' P h']
/-- a, b = e -/
def uAsg (ug : DG) (u : DX) : DS := fun DD e => u e fun r e' => r.keep fun d => ug d e' DD.nx
theorem ds_asg {tg a : Expr} {u : DX} {js : List Nat} {ug : DG} {pos : Pos} (h : PDX X b a u) (hg : PDG X b tg js ug) (hs : swapsWithSole [tg] a pos.line X.env = pure false := by rfl) (hw : swappedStores [tg] a X.env = pure none := by rfl)
    (h1 : (assignEach [tg] X.env).map (·.2) = [assign tg X.env] := by rfl) : PDS X b (.Assign [tg] a pos) (uAsg ug u) := by
  obtain ⟨t, p, l⟩ := h
  obtain ⟨t2, p2, l2⟩ := hg
  refine ⟨_, ps_asg p p2 hs hw h1, ?_⟩
  intro L G0 H0 G H σ e DD D g ok hu
  refine l L G0 H0 G H σ e _ _ g hu fun v r e' G' H' g' hr q => ?_
  obtain ⟨d, G2, g2, hd, q⟩ := hr.freeze g' q
  exact l2 L G0 H0 G2 H' σ e' d v _ _ g2 hd q fun σ3 e3 g3 _ q3 => ok.nx _ _ _ _ g3 q3
/-! ### for -/
theorem Stp.base {L : Lk} {G0 H0 G1 H1 G H : Hp} (s : Stp b L G0 H0 G1 H1) (t : Stp b L G1 H0 G H) : Stp b L G0 H0 G H where
  g := s.g.trans t.g
  fr := fun a o hb nm h => t.fr a o hb (s.nm hb nm (by rw [h]; exact Option.some_ne_none _)) h
  new := fun a hb h hg => t.new a hb h (s.new a hb h hg)
  ex := t.ex
  bag := fun a ha h => t.bag a ha (by
    obtain ⟨h1, _⟩ := s.bag a ha h
    obtain ⟨_, q, ns, i, n, z, h2, h3, h4⟩ := h
    exact ⟨h1, q, ns, i, n, z, h2, s.g _ _ h3, h4⟩)
theorem XL.rebase {L : Lk} {G0 H0 G H : Hp} (s : Stp b L G0 H0 G H) (e : Ex G H) (x : XL K b L G0 H0) : XL K b L G H0 := ⟨x.1, fun hL y cls d σ G' H' st => by
  subst hL
  exact x.2 rfl y cls d σ G' H' (s.base st)⟩
theorem Good.rebase {L : Lk} {G0 H0 G H : Hp} {σ : L2.St} {e : List Sl} (g : Good K b L G0 H0 G H σ e) : Good K b L G H0 G H σ e :=
  ⟨⟨⟨Sub.refl G, fun a o hb nm h => g.stp.fr a o hb (nm.back g.stp.g) h, fun _ _ _ h => h, g.ex, fun a ha _ => g.bag a ha⟩, g.slot, g.inj, g.bag, g.lk, g.len⟩, g.xl.rebase g.stp g.ex⟩
theorem Good.unbase {L : Lk} {G0 H0 G1 H1 G H : Hp} {σ : L2.St} {e : List Sl} (s : Stp b L G0 H0 G1 H1) (x : XL K b L G0 H0) (g : Good K b L G1 H0 G H σ e) : Good K b L G0 H0 G H σ e :=
  ⟨⟨s.base g.stp, g.slot, g.inj, g.bag, g.lk, g.len⟩, x⟩
theorem EndsOk.rebase {L : Lk} {G0 H0 G1 H1 : Hp} {DD : DEnds} {D : Ends} (x : XL K b L G0 H0) (s : Stp b L G0 H0 G1 H1) (ok : EndsOk K b L G0 H0 DD D) : EndsOk K b L G1 H0 DD D :=
  ⟨fun G H σ e g h => ok.nx G H σ e (g.unbase s x) h, fun G H σ e v r g hr h => ok.rt G H σ e v r (g.unbase s x) hr h, fun G H σ e g h => ok.bk G H σ e (g.unbase s x) h, fun G H σ e g h => ok.ct G H σ e (g.unbase s x) h⟩
def uFor (ui : DI) (ug : DG) (ub : DS) : DS := fun DD e => ui e fun xs => ∃ W : Nat → List Sl → Prop, W 0 e ∧ (∀ i x e', xs[i]? = some x → W i e' → ug x e' fun e2 => ub { DD with nx := W (i + 1), ct := W (i + 1), bk := DD.nx } e2) ∧ ∀ e', W xs.length e' → DD.nx e'
theorem ls_for {wi : TI} {ui : DI} {g : TG} {js : List Nat} {ug : DG} {tb : TS} {ub : DS} (hi : LI K b wi ui) (hg : LG K b js g ug) (hb : LS K b tb ub) : LS K b (tFor wi g tb) (uFor ui ug ub) := by
  intro L G0 H0 G H σ e DD D gd ok hu
  refine hi L G0 H0 G H σ e _ _ gd hu fun J xs G1 H1 s1 hJ q => ?_
  obtain ⟨W, w0, hs, hd⟩ := q
  have g1 := gd.step s1
  have ok1 := ok.rebase g1.xl g1.stp
  refine ⟨fun i m σ H => m = xs.length - i ∧ i ≤ xs.length ∧ ∃ G e', Good K b L G1 H0 G H σ e' ∧ W i e', ⟨xs.length, by simp, Nat.zero_le _, G1, e, g1.rebase, w0⟩, ?_⟩
  rintro i m σ H ⟨rfl, hi, G, e', gg, w⟩
  obtain ⟨j1, j2⟩ := hJ G H gg.stp.g gg.ex gg.lk i
  by_cases c : i < xs.length
  · obtain ⟨go, y⟩ := j1 xs[i] (by simp [c])
    refine .inr ⟨go, fun σ' H' => ∃ G e', Good K b L G1 H0 G H' σ' e' ∧ W (i + 1) e', fun σ' H' ⟨G, e', g', w'⟩ => ⟨xs.length - (i + 1), by omega, rfl, by omega, G, e', g', w'⟩, fun v H' hy => ?_⟩
    obtain ⟨G', s', hx⟩ := y v H' hy
    have g' := gg.step s'
    refine hg L G1 H0 G' H' σ e' _ v _ _ g' hx (hs i xs[i] e' (by simp [c]) w) fun σ2 e2 g2 _ q2 => ?_
    exact hb L G1 H0 G' H' σ2 e2 { DD with nx := W (i + 1), ct := W (i + 1), bk := DD.nx } { D with nx := fun σ' H' => ∃ G e', Good K b L G1 H0 G H' σ' e' ∧ W (i + 1) e', ct := fun σ' H' => ∃ G e', Good K b L G1 H0 G H' σ' e' ∧ W (i + 1) e', bk := D.nx } g2
      ⟨fun G H σ e g h => ⟨G, e, g, h⟩, ok1.rt, ok1.nx, fun G H σ e g h => ⟨G, e, g, h⟩⟩ q2
  · have e1 : i = xs.length := by omega
    subst e1
    exact .inl ⟨j2 (Nat.le_refl _), ok1.nx G H σ e' gg (hd e' w)⟩
theorem ds_for {tg iter : Expr} {body : List Stmt} {ui : DI} {js : List Nat} {ug : DG} {ub : DS} {pos : Pos} (hi : PDI X b tg iter ui) (hg : PDG X b tg js ug) (hb : PDSs X b body ub) (hp : PassesOwn (model X.prog X.w) X.A X.env X.xe := by exact PassesOwn.never) (hc : X.calm = true := by rfl)
    (hs : ∀ x, foldedSetIterable iter X.env x = pure x := by intro _; rfl) : PDS X b (.For tg iter body [] pos) (uFor ui ug ub) := by
  obtain ⟨wi, p1, l1⟩ := hi
  obtain ⟨tg, p2, l2⟩ := hg
  obtain ⟨tb, p3, l3⟩ := hb
  exact ⟨_, ps_for hp hc p1 p2 p3 hs, ls_for l1 l2 l3⟩
/-! ### while -/
def uWhile (t : DT) (ub : DS) : DS := fun DD e => ∃ W : Nat → List Sl → Prop, (∃ m, W m e) ∧ ∀ m e', W m e' → t e' fun c => if c = true then ub { DD with nx := fun e2 => ∃ m', m' < m ∧ W m' e2, ct := fun e2 => ∃ m', m' < m ∧ W m' e2, bk := DD.nx } e' else DD.nx e'
theorem ls_while {t : TT} {u : DT} {tb : TS} {ub : DS} (h : LT K b t u) (hb : LS K b tb ub) : LS K b (tWhile t tb) (uWhile u ub) := by
  intro L G0 H0 G H σ e DD D gd ok hu
  obtain ⟨W, ⟨m0, w0⟩, hs⟩ := hu
  refine ⟨fun m σ H => ∃ G e', Good K b L G0 H0 G H σ e' ∧ W m e', ⟨m0, G, e, gd, w0⟩, ?_⟩
  rintro m σ H ⟨G, e', g, w⟩
  refine h L G0 H0 G H σ e' _ _ g (hs m e' w) fun c G1 H1 s1 q => ?_
  have g1 := g.step s1
  cases c with
  | false => exact ok.nx G1 H1 σ e' g1 q
  | true =>
    refine ⟨fun σ2 H2 => ∃ m', m' < m ∧ ∃ G e', Good K b L G0 H0 G H2 σ2 e' ∧ W m' e', fun σ2 H2 ⟨m', hm, q⟩ => ⟨m', hm, q⟩, ?_⟩
    exact hb L G0 H0 G1 H1 σ e' { DD with nx := fun e2 => ∃ m', m' < m ∧ W m' e2, ct := fun e2 => ∃ m', m' < m ∧ W m' e2, bk := DD.nx } _ g1 ⟨fun G H σ e g ⟨m', hm, q⟩ => ⟨m', hm, G, e, g, q⟩, ok.rt, ok.nx, fun G H σ e g ⟨m', hm, q⟩ => ⟨m', hm, G, e, g, q⟩⟩ q
theorem ds_while {c : Expr} {body : List Stmt} {u : DT} {ub : DS} {pos : Pos} (h : PDT X b c u) (hb : PDSs X b body ub) (hp : PassesOwn (model X.prog X.w) X.A X.env X.xe := by exact PassesOwn.never) : PDS X b (.While c body [] pos) (uWhile u ub) := by
  obtain ⟨t, p, l⟩ := h
  obtain ⟨tb, p3, l3⟩ := hb
  exact ⟨_, ps_while hp p p3, ls_while l l3⟩
end
end DL
namespace DL
open PySem L2 PyProof.Rows
section
variable {X : Cx} {b : Bg} {K : PySem.W.Frag}
/-! ### comprehensions -/
def wipeE (e : List Sl) : List Nat → List Sl
  | [] => e
  | v :: vs => (wipeE e vs).set v .un
theorem Good.setN {L : Lk} {G0 H0 G H : Hp} {σ : L2.St} {e : List Sl} (g : Good K b L G0 H0 G H σ e) (i : Nat) : Good K b L G0 H0 G H (σ.set i none) (e.set i .un) where
  stp := g.stp
  slot := fun j x hx => by
    rw [get_set] at hx ⊢
    by_cases c : i = j
    · rw [if_pos c] at hx
      split at hx
      · cases hx; trivial
      · cases hx
    · rw [if_neg c] at hx ⊢; exact g.slot j x hx
  inj := fun j k t1 t2 o1 o2 c q1 q2 q3 q4 => by
    have tr : ∀ {j : Nat} {t1 : Option Addr} {o1 : OD}, (e.set i .un)[j]? = some (.own t1 o1) → e[j]? = some (.own t1 o1) ∧ i ≠ j := fun {j t1 o1} q => by
      rw [get_set] at q
      by_cases c : i = j
      · rw [if_pos c] at q; split at q <;> cases q
      · rw [if_neg c] at q; exact ⟨q, c⟩
    obtain ⟨p1, n1⟩ := tr q1
    obtain ⟨p2, n2⟩ := tr q2
    rw [get_set, if_neg n1] at q3
    rw [get_set, if_neg n2] at q4
    exact g.inj j k _ _ _ _ c p1 p2 q3 q4
  bag := g.bag
  lk := g.lk
  len := by rw [List.length_set, List.length_set]; exact g.len
  xl := g.xl
theorem Good.wipe {L : Lk} {G0 H0 G H : Hp} {σ : L2.St} {e : List Sl} (g : Good K b L G0 H0 G H σ e) : ∀ vs, Good K b L G0 H0 G H (L2.wipe σ vs) (wipeE e vs)
  | [] => g
  | v :: vs => (g.wipe vs).setN v
theorem wipe_wipe {σ : L2.St} : ∀ {vs : List Nat}, L2.wipe (L2.wipe σ vs) vs = L2.wipe σ vs := by
  have q : ∀ (ws vs : List Nat), (∀ j ∈ ws, j ∈ vs) → L2.wipe (L2.wipe σ ws) vs = L2.wipe σ vs := by
    intro ws
    induction ws with
    | nil => intro vs _; rfl
    | cons w ws ih =>
      intro vs h
      show L2.wipe ((L2.wipe σ ws).set w none) vs = _
      rw [wipe_set (h w List.mem_cons_self)]
      exact ih vs fun j hj => h j (List.mem_cons_of_mem _ hj)
  intro vs
  exact q vs vs fun _ h => h
/-- a thing made since changes -/
theorem Stp.mut {Gs Hs G H : Hp} {p : Addr} {o : HO} (s : Stp b [] Gs Hs G H) (hb : b.a ≠ .some p) (hp : Hs p = none) (hg : G p = none) : Stp b [] Gs Hs G (L2.upd H p o) := by
  refine ⟨s.g, fun a u hb' nm h => .inl ?_, s.new, fun a u h => ?_, fun a ha h => ?_⟩
  · rw [upd_ne (ne_of_none h hp)]; exact s.fr0 hb' h
  · rw [upd_ne (ne_of_none h hg)]; exact s.ex a u h
  · obtain ⟨h1, q, ns, i, n, z, h2, h3⟩ := s.bag a ha h
    exact ⟨h1, q, ns, i, n, z, by rw [upd_ne (fun z => hb (by rw [← z]; exact ha))]; exact h2, h3⟩
structure PDTs (X : Cx) (b : Bg) (ifs : List Expr) (u : DT) : Prop where
  ex : ∃ t, PTs X ifs t ∧ LT X.K b t u
def uYes : DT := fun _ P => P true
theorem lt_yes : LT K b tYes uYes := fun L G0 H0 G H σ e P Q g h k => k true G H (Stp.refl g.ex) h
def uLc (ui : DI) (ug : DG) (ut : DT) (ue : DE) (vs : List Nat) : DE := fun e P => ui e fun xs => ∃ W : Nat → List D → Prop, W 0 [] ∧
  (∀ (i : Nat) x acc, xs[i]? = some x → W i acc → ug x (wipeE e vs) fun e2 => ut e2 fun c => if c = true then ue e2 (R.keep fun d => acc.length < 1000000 ∧ W (i + 1) (acc ++ [d])) else W (i + 1) acc) ∧ ∀ acc, W xs.length acc → P (.ow (.lst acc))
theorem le_lc {wi : TI} {ui : DI} {g : TG} {js : List Nat} {ug : DG} {tt : TT} {ut : DT} {te : TE} {ue : DE} {vs : List Nat} (hi : LI K b wi ui) (hg : LG K b js g ug) (ht : LT K b tt ut) (he : LE K b te ue) (hj : ∀ j ∈ js, j ∈ vs) : LE K b (tLc wi g tt te vs) (uLc ui ug ut ue vs) := by
  intro L G0 H0 G H σ e P Q gd hu k
  refine hi L G0 H0 G H σ e _ _ gd hu fun J xs G1 H1 s1 hJ q => ?_
  obtain ⟨W, w0, hs, hd⟩ := q
  have g1 := gd.step s1
  intro Dl hD
  have nb : b.a ≠ some Dl := g1.nb hD
  have s0 : Stp b [] G1 H1 G1 (L2.upd H1 Dl (.lst [])) := Stp.made g1.ex hD
  refine ⟨fun i m H => m = xs.length - i ∧ i ≤ xs.length ∧ ∃ G acc va, Stp b [] G1 H1 G H ∧ G Dl = none ∧ H Dl = some (.lst va) ∧ RepL K G acc va ∧ W i acc,
    ⟨xs.length, by simp, Nat.zero_le _, G1, [], [], s0, g1.ex.none hD, upd_same, rfl, w0⟩, ?_⟩
  rintro i m H ⟨rfl, hi, G', acc, va, st, hgD, hHD, hra, w⟩
  have gg := (g1.step st).wipe vs
  obtain ⟨j1, j2⟩ := hJ G' H st.g st.ex gg.lk i
  by_cases c : i < xs.length
  · obtain ⟨go, y⟩ := j1 xs[i] (by simp [c])
    refine .inr ⟨go, fun H' => ∃ G acc va, Stp b [] G1 H1 G H' ∧ G Dl = none ∧ H' Dl = some (.lst va) ∧ RepL K G acc va ∧ W (i + 1) acc, fun H' q => ⟨xs.length - (i + 1), by omega, rfl, by omega, q⟩, fun v H2 hy => ?_⟩
    obtain ⟨G2, s2, hx⟩ := y v H2 hy
    have g2 := gg.step s2
    refine hg L G0 H0 G2 H2 _ _ _ v _ _ g2 hx (hs i xs[i] acc (by simp [c]) w) fun σ3 e3 g3 w3 q3 => ⟨?_, ?_⟩
    · rw [w3 vs hj, wipe_wipe]
    · refine ht L G0 H0 G2 H2 σ3 e3 _ _ g3 q3 fun c3 G4 H4 s4 q4 => ?_
      have g4 := g3.step s4
      have s14 := (st.trans s2).trans s4
      have d2 : G2 Dl = none := s2.new Dl nb (by rw [hHD]; simp) hgD
      have d4 : G4 Dl = none := s4.new Dl nb (by rw [s2.fr0 nb hHD]; simp) d2
      have h4 : H4 Dl = some (.lst va) := s4.fr0 nb (s2.fr0 nb hHD)
      cases c3 with
      | false => exact ⟨G4, acc, va, s14, d4, h4, (hra.mono s2.g).mono s4.g, q4⟩
      | true =>
        refine he L G0 H0 G4 H4 σ3 e3 _ _ g4 q4 fun v5 r5 G5 H5 s5 hr5 q5 => ?_
        obtain ⟨d, G6, s6, hd6, hl, q6⟩ := hr5.freeze s5 q5
        have d6 : G6 Dl = none := s6.new Dl nb (by rw [h4]; simp) d4
        have h6 : H5 Dl = some (.lst va) := s6.fr0 nb h4
        have ra : RepL K G6 acc va := ((hra.mono s2.g).mono s4.g).mono s6.g
        exact ⟨va, h6, by rw [ra.length]; exact lt_line hl, G6, acc ++ [d], va ++ [v5], (s14.trans s6).mut nb hD d6, d6, upd_same, ra.append (RepL.one hd6), q6⟩
  · have e1 : i = xs.length := by omega
    subst e1
    refine .inl ⟨j2 (Nat.le_refl _), ?_⟩
    exact k _ (.ow (.lst acc)) G' H (s1.trans st) ⟨Dl, _, rfl, nb, s1.back Dl nb hD, hgD, hHD, va, rfl, hra⟩ (hd acc w)
/-- the block of a comprehension -/
abbrev Blk (X : Cx) (scope : Scope) (Φ : Cx → Prop) : Prop := ∀ (s : Shared) (H : Hp) (C : Addr) (cl : List (Str × Addr)) (fp : List Addr), Φ (X.blk s H scope (compEnvC scope cl C X.env) fp)
theorem blk_e {scope : Scope} {a : Expr} {u : DE} (h : Blk X scope fun Y => PD Y b a u) : ∃ t, (∀ (s : Shared) (H : Hp) (C : Addr) (cl : List (Str × Addr)) (fp : List Addr), PE (X.blk s H scope (compEnvC scope cl C X.env) fp) a t) ∧ LE X.K b t u := by
  have q : ∀ z : Shared × Hp × Addr × List (Str × Addr) × List Addr, ∃ t, PE (X.blk z.1 z.2.1 scope (compEnvC scope z.2.2.2.1 z.2.2.1 X.env) z.2.2.2.2) a t ∧ LE X.K b t u := fun z => (h z.1 z.2.1 z.2.2.1 z.2.2.2.1 z.2.2.2.2).ex
  exact ⟨fun σ H Q => ∀ z, (q z).choose σ H Q, fun s H C cl fp => ⟨fun pins s' σ' H' Q I hh => (q (s, H, C, cl, fp)).choose_spec.1.run pins s' σ' H' Q I (hh _)⟩, fun L G0 H0 G H σ e P Q g hu k z => (q z).choose_spec.2 L G0 H0 G H σ e P Q g hu k⟩
theorem blk_t {scope : Scope} {ifs : List Expr} {u : DT} (h : Blk X scope fun Y => PDTs Y b ifs u) : ∃ t, (∀ (s : Shared) (H : Hp) (C : Addr) (cl : List (Str × Addr)) (fp : List Addr), PTs (X.blk s H scope (compEnvC scope cl C X.env) fp) ifs t) ∧ LT X.K b t u := by
  have q : ∀ z : Shared × Hp × Addr × List (Str × Addr) × List Addr, ∃ t, PTs (X.blk z.1 z.2.1 scope (compEnvC scope z.2.2.2.1 z.2.2.1 X.env) z.2.2.2.2) ifs t ∧ LT X.K b t u := fun z => (h z.1 z.2.1 z.2.2.1 z.2.2.2.1 z.2.2.2.2).ex
  exact ⟨fun σ H Q => ∀ z, (q z).choose σ H Q, fun s H C cl fp => ⟨fun pins s' σ' H' Q I hh => (q (s, H, C, cl, fp)).choose_spec.1.run pins s' σ' H' Q I (hh _)⟩, fun L G0 H0 G H σ e P Q g hu k z => (q z).choose_spec.2 L G0 H0 G H σ e P Q g hu k⟩
theorem blk_g {scope : Scope} {a : Expr} {js : List Nat} {u : DG} (h : Blk X scope fun Y => PDG Y b a js u) : ∃ t, (∀ (s : Shared) (H : Hp) (C : Addr) (cl : List (Str × Addr)) (fp : List Addr), PG (X.blk s H scope (compEnvC scope cl C X.env) fp) a t) ∧ LG X.K b js t u := by
  have q : ∀ z : Shared × Hp × Addr × List (Str × Addr) × List Addr, ∃ t, PG (X.blk z.1 z.2.1 scope (compEnvC scope z.2.2.2.1 z.2.2.1 X.env) z.2.2.2.2) a t ∧ LG X.K b js t u := fun z => (h z.1 z.2.1 z.2.2.1 z.2.2.2.1 z.2.2.2.2).ex
  exact ⟨fun v σ H Q => ∀ z, (q z).choose v σ H Q, fun s H C cl fp => ⟨fun pins s' σ' H' v u Q I r hh => (q (s, H, C, cl, fp)).choose_spec.1.run pins s' σ' H' v u Q I r (hh _)⟩, fun L G0 H0 G H σ e d v P Q g hd hu k z => (q z).choose_spec.2 L G0 H0 G H σ e d v P Q g hd hu k⟩
theorem dts_nil : PDTs X b [] uYes := ⟨_, pts_nil, lt_yes⟩
theorem dts_one {c : Expr} {u : DT} (h : PDT X b c u) : PDTs X b [c] u := by
  obtain ⟨t, p, l⟩ := h
  exact ⟨_, pts_one p, l⟩
theorem blkD {N : List Str} {sc scope : Scope} {own : List (Str × Nat)} (h : blkC N sc scope own = true) (e1 : X.N = N := by rfl) (e2 : X.env.scope = sc := by rfl) : blkC X.N X.env.scope scope own = true := by
  rw [e1, e2]; exact h
theorem d_lc {elt tg iter : Expr} {ifs : List Expr} {scope : Scope} {own : List (Str × Nat)} {pos : Pos} {ui : DI} {js : List Nat} {ug : DG} {ut : DT} {ue : DE} (hN : X.N.Nodup) (ok : blkC X.N X.env.scope scope own = true) (hj : ∀ j ∈ js, j ∈ own.map (·.2)) (hi : PDI X b tg iter ui)
    (hg : Blk X scope fun Y => PDG Y b tg js ug) (ht : Blk X scope fun Y => PDTs Y b ifs ut) (he : Blk X scope fun Y => PD Y b elt ue) (hc : X.calm = true := by rfl) (hs : ∀ x, foldedSetIterable iter X.env x = pure x := by intro _; rfl) :
    PD X b (.ListComp elt [⟨tg, iter, ifs, 0⟩] scope pos) (uLc ui ug ut ue (own.map (·.2))) := by
  obtain ⟨wi, p1, l1⟩ := hi
  obtain ⟨g, p2, l2⟩ := blk_g hg
  obtain ⟨tt, p3, l3⟩ := blk_t ht
  obtain ⟨te, p4, l4⟩ := blk_e he
  exact ⟨_, pe_lc hc hN p1 (blkOk_by ok) p2 p3 p4 hs, le_lc l1 l2 l3 l4 hj⟩
/-- x = [..]: as a statement of its own -/
theorem ds_setLc {i : Nat} {y : Str} {py : Pos} {elt tg iter : Expr} {ifs : List Expr} {scope : Scope} {own : List (Str × Nat)} {pos spos : Pos} {ui : DI} {js : List Nat} {ug : DG} {ut : DT} {ue : DE} (hN : X.N.Nodup) (ok : blkC X.N X.env.scope scope own = true) (hj : ∀ j ∈ js, j ∈ own.map (·.2)) (hi : PDI X b tg iter ui)
    (hg : Blk X scope fun Y => PDG Y b tg js ug) (ht : Blk X scope fun Y => PDTs Y b ifs ut) (he : Blk X scope fun Y => PD Y b elt ue)
    (hsw : swapsWith (.ListComp elt [⟨tg, iter, ifs, 0⟩] scope pos) (some (.Name y py)) spos.line X.env = pure true) (hy : X.N[i]? = some y := by rfl) (hyl : X.env.scope.names.lookup y = some .local := by rfl) (hc : X.calm = true := by rfl) (hs : ∀ x, foldedSetIterable iter X.env x = pure x := by intro _; rfl) :
    PDS X b (.Assign [.Name y py] (.ListComp elt [⟨tg, iter, ifs, 0⟩] scope pos) spos) (uSet i (uX (uLc ui ug ut ue (own.map (·.2))))) := by
  obtain ⟨wi, p1, l1⟩ := hi
  obtain ⟨g, p2, l2⟩ := blk_g hg
  obtain ⟨tt, p3, l3⟩ := blk_t ht
  obtain ⟨te, p4, l4⟩ := blk_e he
  refine ⟨_, ps_setLc hc hN hy hyl hsw p1 (blkOk_by ok) p2 p3 p4 hs, ?_⟩
  intro L G0 H0 G H σ e DD D g ok hu
  refine lx_of (le_lc l1 l2 l3 l4 hj) L G0 H0 G H σ e _ _ g hu fun v r e' G' H' g' hr q => ?_
  obtain ⟨d, G2, g2, hd, q⟩ := hr.freeze g' q
  exact ok.nx _ _ _ _ (g2.setS i hd) q
/-! ### a def -/
def env0 (N : List Str) (ds : List D) : List Sl := ds.map .sh ++ List.replicate (N.length - ds.length) .un
def envB (N : List Str) (ds : List D) : List Sl := .bag :: env0 N.tail ds
theorem slot_start {G H0 H : Hp} : ∀ {ds : List D} {vs : List V}, RepL K G ds vs → ∀ (m n : Nat) (i : Nat) (x : Sl), (ds.map Sl.sh ++ List.replicate m .un)[i]? = some x → SlotOk K b H0 G H (vs.map some ++ List.replicate n none)[i]? x
  | [], _, h, m, n, i, x, e => by
    cases h
    rw [List.map_nil, List.nil_append, List.getElem?_replicate] at e
    split at e
    · cases e; trivial
    · cases e
  | d :: ds, _, ⟨v, r, h1, h2, h3⟩, m, n, 0, x, e => by
    subst h1
    cases e
    exact ⟨v, rfl, h2⟩
  | d :: ds, _, ⟨v, r, h1, h2, h3⟩, m, n, i + 1, x, e => by
    subst h1
    exact slot_start h3 m n i x (by simpa using e)
theorem noown {ds : List D} {m i : Nat} {q : Option Addr} {o : OD} : (ds.map Sl.sh ++ List.replicate m .un)[i]? ≠ some (.own q o) := fun h => by
  have q := List.mem_of_getElem? h
  rcases List.mem_append.mp q with z | z
  · obtain ⟨d, _, e⟩ := List.mem_map.mp z
    cases e
  · cases (List.mem_replicate.mp z).2
theorem good0 {G H : Hp} {N : List Str} {ds : List D} {vs : List V} (ex : Ex G H) (h : RepL K G ds vs) : Good K (bN none) [] G H G H (L2.start N vs) (env0 N ds) where
  stp := Stp.refl ex
  slot := fun i x e => slot_start h _ _ i x e
  inj := fun i j t t' o o' a h1 => absurd h1 noown
  bag := fun a h => by cases h
  lk := fun a od u m => by cases m
  len := by
    have := h.length
    unfold env0 L2.start
    simp [this]
  xl := xl_n
theorem goodB {G H : Hp} {a : Addr} {N : List Str} {ds : List D} {vs : List V} (ex : Ex G H) (hb : BagOk G H a) (h : RepL K G ds vs) (hN : N.length = N.tail.length + 1) : Good K (bN (some a)) [] G H G H (L2.start N (.ref a :: vs)) (envB N ds) := by
  have es : L2.start N (.ref a :: vs) = some (.ref a) :: (vs.map some ++ List.replicate (N.tail.length - vs.length) none) := by
    unfold L2.start
    rw [List.map_cons, List.length_cons, hN, Nat.add_sub_add_right]
    rfl
  rw [es]
  refine ⟨⟨Stp.refl ex, fun i x e => ?_, fun i j t t' o o' c h1 h2 _ _ => ?_, fun c hc => by cases hc; exact hb, fun c od u m => (by cases m), ?_⟩, xl_n⟩
  · cases i with
    | zero => cases e; exact ⟨a, rfl, rfl⟩
    | succ i => exact slot_start h _ _ i x (by simpa [envB, env0] using e)
  · cases i with
    | zero => cases h1
    | succ i => exact absurd (show (ds.map Sl.sh ++ List.replicate _ .un)[i]? = some (.own t o) by simpa [envB, env0] using h1) noown
  · have := h.length
    unfold envB env0
    simp [this]
section
variable {P : Program} {w : World} {mg : Str → Option Value} {base : Heap}
theorem fn_data {x qual : Str} {st : Stmt} {f : Addr} {fd : FuncData} {N ps : List Str} {k : Nat} {fs : FS} {u : DS} (F : Fun K x qual st f fd) (hm : mg x = some (.ref f)) (hbi : Binds K fd ps []) (S : FnScope N ps (defScope st)) (len : ∀ ds P, fs ds P → ds.length = ps.length)
    (hb : ∀ (cdv : Value) (A : Around) (outer : List Env) (s : Shared) (H : Hp) (E : XK), Room k (A.deeper (envOfC qual (defScope st) s.heap.objs.size f cdv)) → PDSs (cxOf CX0 P w K mg base N qual (defScope st) f cdv A outer s H E).nox (bN none) (defBody st) u)
    (hu : ∀ ds P, fs ds P → u ⟨fun _ => P (.sh .non), fun r _ => P r, fun _ => False, fun _ => False⟩ (env0 N ds)) : Known P w K mg base x (k + 1) ps (spN K fs) := by
  refine ⟨f, fd, F.ok S (fun vs H Q E h => ?_) (fun cdv A outer s H vs Q E hr h => ?_), hm, F.kp, hbi⟩
  · obtain ⟨G, ds, P, _, hr, hf, _⟩ := h
    rw [hr.length]; exact len ds P hf
  · obtain ⟨G, ds, P', ex, hds, hf, kk⟩ := h
    obtain ⟨t, p, l⟩ := hb cdv A outer s H E hr
    refine ⟨t, p, l [] G H G H _ _ ⟨fun _ => P' (.sh .non), fun r _ => P' r, fun _ => False, fun _ => False⟩ _ (good0 ex hds) ⟨fun G' H' σ e g h => ?_, fun G' H' σ e v r g hr h => ?_, fun G' H' σ e g h => h.elim, fun G' H' σ e g h => h.elim⟩ (hu ds P' hf)⟩
    · exact kk .non (.sh .non) G' H' g.stp rfl h
    · exact kk v r G' H' g.stp hr h
theorem fn_bag {x qual : Str} {st : Stmt} {f : Addr} {fd : FuncData} {N ps : List Str} {k : Nat} {fs : FS} {u : DS} (F : Fun K x qual st f fd) (hm : mg x = some (.ref f)) (hbi : Binds K fd ps []) (S : FnScope N ps (defScope st)) (len : ∀ ds P, fs ds P → ds.length + 1 = ps.length) (hN : N.length = N.tail.length + 1)
    (hb : ∀ (b : Option Addr) (cdv : Value) (A : Around) (outer : List Env) (s : Shared) (H : Hp) (E : XK), Room k (A.deeper (envOfC qual (defScope st) s.heap.objs.size f cdv)) → PDSs (cxOf CX0 P w K mg base N qual (defScope st) f cdv A outer s H E).nox (bN b) (defBody st) u)
    (hu : ∀ ds P, fs ds P → u ⟨fun _ => P (.sh .non), fun r _ => P r, fun _ => False, fun _ => False⟩ (envB N ds)) : Known P w K mg base x (k + 1) ps (spB K fs) := by
  refine ⟨f, fd, F.ok S (fun vs H Q E h => ?_) (fun cdv A outer s H vs Q E hr h => ?_), hm, F.kp, hbi⟩
  · obtain ⟨a, vs', G, ds, P, rfl, _, _, hr, hf, _⟩ := h
    rw [List.length_cons, hr.length]; exact len ds P hf
  · obtain ⟨a, vs', G, ds, P', rfl, ex, hbag, hds, hf, kk⟩ := h
    obtain ⟨t, p, l⟩ := hb (.some a) cdv A outer s H E hr
    refine ⟨t, p, l [] G H G H _ _ ⟨fun _ => P' (.sh .non), fun r _ => P' r, fun _ => False, fun _ => False⟩ _ (goodB ex hbag hds hN) ⟨fun G' H' σ e g h => ?_, fun G' H' σ e v r g hr h => ?_, fun G' H' σ e g h => h.elim, fun G' H' σ e g h => h.elim⟩ (hu ds P' hf)⟩
    · exact kk .non (.sh .non) G' H' g.stp rfl h
    · exact kk v r G' H' g.stp hr h
end
end
end DL
namespace DL
open PySem L2 PyProof.Rows
section
variable {X : Cx} {b : Bg} {K : PySem.W.Frag}
/-- a value is put into a slot; other new things stay new -/
theorem Good.into {L : Lk} {G0 H0 G H : Hp} {σ : L2.St} {e : List Sl} {r : R} {v : V} {own : Bool} {P : Sl → Prop} (g : Good K b L G0 H0 G H σ e) (i : Nat) (h : RepX K b H0 σ e G H r v) (k : r.into own P) :
    ∃ s G', Good K b L G0 H0 G' H (σ.set i (some v)) (e.set i s) ∧ P s ∧ Sub G G' ∧ (∀ a, (∀ o, r = .ow o → v ≠ .ref a) → G a = none → G' a = none) ∧ ∀ q' o', s = .own q' o' → ∃ o, r = .ow o := by
  cases r with
  | al i o => exact k.elim
  | sh d => exact ⟨.sh d, G, g.setS i h, k.2, Sub.refl G, fun _ _ h => h, fun _ _ h => nomatch h⟩
  | ow o =>
    have h0 := h
    obtain ⟨a, ho, rfl, h2, h3, h4, h5, h6⟩ := h
    by_cases c : own = true
    · refine ⟨.own none o, G, g.setO i h2 h3 h4 h5 h6, ?_, Sub.refl G, fun _ _ h => h, fun _ _ _ => ⟨o, rfl⟩⟩
      have k1 : if own = true then P (.own none o) else P (.sh o.d) := k
      rwa [if_pos c] at k1
    · have k' : P (.sh o.d) := by
        have k1 : if own = true then P (.own none o) else P (.sh o.d) := k
        rwa [if_neg c] at k1
      have g1 := g.setO i h2 h3 h4 h5 h6
      by_cases hi : i < e.length
      · have hi1 : (e.set i (.own none o))[i]? = some (.own none o) := by rw [get_set, if_pos rfl, if_pos hi]
        -- given up at once
        refine ⟨.sh o.d, L2.upd G a ho, ?_, k', sub_upd h4, fun c nc hc => ?_, fun _ _ h => nomatch h⟩
        · obtain ⟨a', ho', q1, q2, q3, q4, q5, q6, _⟩ := g1.slot i _ hi1
          rw [get_set, if_pos rfl, if_pos (by rw [← g.len]; exact hi)] at q1
          cases q1
          rw [h5] at q5
          cases q5
          have sub := sub_upd (o := ho) h4
          refine (Good.setS (d := o.d) (v := .ref a) (σ := σ) (e := e) ?_ i (h6.rep h4))
          refine ⟨⟨⟨g.stp.g.trans sub, g.stp.fr, fun c hc hu hg => ?_, fun c u hu => ?_, fun c hc h => ?_⟩, fun j x hx => ?_, g.inj, fun c hc => ?_, g.lk, g.len⟩, g.xl⟩
          · rw [upd_ne (fun z => hu (by rw [z]; exact h3.1))]
            exact g.stp.new c hc hu hg
          · by_cases z : c = a
            · subst z; rw [upd_same] at hu; cases hu; exact .inl h5
            · rw [upd_ne z] at hu; exact (g.ex c u hu).mono sub
          · obtain ⟨z1, s, ns, i, n, z, z2, z3, z4⟩ := g.stp.bag c hc h
            exact ⟨by rw [upd_ne (fun z => h2 (by rw [← z]; exact hc))]; exact z1, s, ns, i, n, z, z2, sub _ _ z3, z4⟩
          · have q := g.slot j x hx
            cases x with
            | un => trivial
            | sh d => obtain ⟨v, z1, z2⟩ := q; exact ⟨v, z1, z2.mono sub⟩
            | own t2 o2 =>
              obtain ⟨a2, ho2, z1, z2, z3, z4, z5, z6, z7⟩ := q
              have ne : a2 ≠ a := fun z => by
                subst z
                exact h3.2 j t2 o2 hx z1
              exact ⟨a2, ho2, z1, z2, z3, by rw [upd_ne ne]; exact z4, z5, z6.mono sub, z7⟩
            | bag => exact q
          · obtain ⟨z1, s, ns, i, n, z, z2, z3, z4⟩ := g.bag c hc
            exact ⟨by rw [upd_ne (fun z => h2 (by rw [← z]; exact hc))]; exact z1, s, ns, i, n, z, z2, sub _ _ z3, z4⟩
        · rw [upd_ne (fun z => nc o rfl (by rw [z]))]; exact hc
      · have e1 : e.set i (.own none o) = e := List.set_eq_of_length_le (by omega)
        have e2 : e.set i (.sh o.d) = e := List.set_eq_of_length_le (by omega)
        rw [e1] at g1
        exact ⟨.sh o.d, G, Eq.mp (congrArg _ e2.symm) g1, k', Sub.refl G, fun _ _ h => h, fun _ _ h => nomatch h⟩
def uPar (i j : Nat) (o1 o2 : Bool) (u1 u2 : DE) : DS := fun DD e => u1 e fun r1 => u2 e fun r2 => r1.into o1 fun s1 => r2.into o2 fun s2 => DD.nx ((e.set i s1).set j s2)
theorem ds_par {i j : Nat} {x y : Str} {a c : Expr} {u1 u2 : DE} (o1 o2 : Bool) {px py pt pos : Pos} {kt k2 pt2} (hN : X.N.Nodup) (h1 : PD X b a u1) (h2 : PD X b c u2) (hij : i ≠ j := by decide)
    (hi : X.N[i]? = some x := by rfl) (hj : X.N[j]? = some y := by rfl) (hs : starEach (a :: [c]) X.env = (false, eval a X.env) :: starEach [c] X.env := by rfl) (hs2 : starEach (c :: []) X.env = (false, eval c X.env) :: starEach [] X.env := by rfl)
    (hc : X.calm = true := by rfl) (hx : X.env.scope.names.lookup x = some .local := by rfl) (hy : X.env.scope.names.lookup y = some .local := by rfl) (hw : swappedStores [.Tuple [.Name x px, .Name y py] kt pt] (.Tuple [a, c] k2 pt2) X.env = pure (some [x, y]) := by rfl) :
    PDS X b (.Assign [.Tuple [.Name x px, .Name y py] kt pt] (.Tuple [a, c] k2 pt2) pos) (uPar i j o1 o2 u1 u2) := by
  obtain ⟨t1, p1, l1⟩ := h1
  obtain ⟨t2, p2, l2⟩ := h2
  refine ⟨_, ps_par hc hN hi hj hij hx hy (pa_cons p1 (pa_cons p2 pa_nil hs2) hs) hw, ?_⟩
  intro L G0 H0 G H σ e DD D g ok hu
  refine l1 L G0 H0 G H σ e _ _ g hu fun v r1 G1 H1 s1 hr1 q1 => ?_
  have g1 := g.step s1
  refine l2 L G0 H0 G1 H1 σ e _ _ g1 q1 fun w r2 G2 H2 s2 hr2 q2 => ?_
  have g2 := g1.step s2
  have hr1' := hr1.step s2
  refine ⟨v, w, rfl, ?_⟩
  have x1 : RepX X.K b H0 σ e G2 H2 r1 v := by
    cases r1 with
    | sh d => exact hr1'
    | al i o => exact hr1'
    | ow o => obtain ⟨a, ho, e1, e2, e3, e4⟩ := hr1'; exact ⟨a, ho, e1, e2, g.fresh e2 e3, e4⟩
  obtain ⟨s, G3, g3, q3, sub, kp, ks⟩ := g2.into i x1 q2
  have x2 : RepX X.K b H0 (σ.set i (some v)) (e.set i s) G3 H2 r2 w := by
    cases r2 with
    | sh d => exact Rep.mono sub hr2
    | al k o => exact q3.elim
    | ow o =>
      obtain ⟨a, ho, e1, e2, e3, e4, e5, e6⟩ := hr2
      have nv : ∀ o, r1 = .ow o → v ≠ .ref a := fun o1 z0 z => by
        subst z0
        subst z
        obtain ⟨a1, ho1, z1, z2, z3, z4, z5, _⟩ := hr1
        cases z1
        rw [e3] at z5; cases z5
      have f2 := g1.fresh e2 e3
      refine ⟨a, ho, e1, e2, ⟨f2.1, fun j' t' o' hj' hs' => ?_⟩, kp a nv e4, e5, e6.mono sub⟩
      rw [get_set] at hj' hs'
      by_cases c : i = j'
      · rw [if_pos c] at hs'
        rw [if_pos c] at hj'
        split at hj'
        · cases hj'
          obtain ⟨o1, z0⟩ := ks _ o' rfl
          split at hs'
          · cases hs'
            exact nv o1 z0 rfl
          · cases hs'
        · cases hj'
      · rw [if_neg c] at hj' hs'
        exact f2.2 j' t' o' hj' hs'
  obtain ⟨s', G4, g4, q4, _⟩ := g3.into j x2 q3
  exact ok.nx _ _ _ _ g4 q4
end
end DL
namespace DL
open PySem L2 PyProof.Rows
section
variable {X : Cx} {b : Bg} {K : PySem.W.Frag}
/-! ### list of a text, of a range; count; reversed slices; signs of numbers -/
theorem vals_of {xs : List V} {us : List Value} (hl : xs.length = us.length) (h : ∀ (i : Nat) (x : V) (u : Value), xs[i]? = some x → us[i]? = some u → RelV x u) : Vals xs us := by
  induction xs generalizing us with
  | nil =>
    cases us with
    | nil => exact .nil
    | cons u us => cases hl
  | cons x xs ih =>
    cases us with
    | nil => cases hl
    | cons u us => exact .cons (h 0 x u rfl rfl) (ih (by simpa using hl) fun i x' u' h1 h2 => h (i + 1) x' u' (by simpa using h1) (by simpa using h2))
theorem cr_listStr (hc : X.calm = true) : CallR X (.type "list") (fun xs H Q => ∃ z : Str, xs = [.str z] ∧ z.length ≤ sizeLine ∧ ∀ p, H p = none → Q (.ref p) (upd H p (.lst (z.cps.toList.map fun c => V.str (sign c))))) := by
  intro pins s σ H xs us Q I rs h
  obtain ⟨z, rfl, hz, q⟩ := h
  cases rs with
  | cons rx rt =>
    cases rt
    obtain ⟨t, rfl⟩ := rx
    refine PySem.call_list_str (I.ok.hd hc) z t (hn := hz) fun h' tk acc' c' kp e hi => ?_
    refine ⟨.ref s.heap.objs.size, _, I.laid (t' := tk) kp (Nat.le_refl _) (o := .lst (z.cps.toList.map fun c => V.str (sign c))) ⟨by simpa [Str.length] using hz, acc'.toList, c', ?_, by simpa using e⟩, rfl, q _ (I.hok.fresh (Nat.le_refl _))⟩
    refine vals_of (by simp [hi.1]) fun i x u h1 h2 => ?_
    obtain ⟨c, t', hc, rfl⟩ := hi.2 i u (by simpa using h2)
    rw [List.getElem?_map] at h1
    have e2 : z.cps.toList[i]? = some c := by simpa using hc
    rw [e2] at h1
    cases h1
    exact ⟨t', rfl⟩
def fList2 (d : D) (P : R → Prop) : Prop := match d with
  | .lst xs => P (.ow (.lst xs))
  | .tup xs => P (.ow (.lst xs))
  | .str s => s.length ≤ 1000000 ∧ P (.ow (.lst (signs s)))
  | _ => False
theorem signs_rep {G : Hp} (s : Str) : RepL K G (signs s) (s.cps.toList.map fun c => V.str (sign c)) := repL_map (f := fun c => D.str (sign c)) (g := fun c => V.str (sign c)) (fun _ => rfl) _
theorem lc_list2 : LC K (fun xs H Q => (fun xs H Q => ∃ p ys, xs = [.ref p] ∧ (SqL K H p ys ∨ SqT K H p ys) ∧ ∀ l, H l = none → Q (.ref l) (upd H l (.lst ys))) xs H Q ∨
    (fun xs H Q => ∃ z : Str, xs = [.str z] ∧ z.length ≤ sizeLine ∧ ∀ p, H p = none → Q (.ref p) (upd H p (.lst (z.cps.toList.map fun c => V.str (sign c))))) xs H Q) fList2 := by
  intro b L G0 H0 G H σ e d x P Q g h hf k
  unfold fList2 at hf
  split at hf
  · obtain ⟨a, vs, rfl, ha, hr⟩ := h
    exact .inl ⟨a, vs, rfl, .inl (SqL.of ha), g.newL hr hf k⟩
  · obtain ⟨a, vs, rfl, ha, hr⟩ := h
    exact .inl ⟨a, vs, rfl, .inr ha, g.newL hr hf k⟩
  · cases h
    exact .inr ⟨_, rfl, le_line hf.1, g.newL (signs_rep _) hf.2 k⟩
  · exact hf.elim
theorem d_list2 {a : Expr} {u : DE} {p pos : Pos} (hm : X.mg "list" = none) (h1 : PD X b a u) (hc : X.calm = true := by rfl) (hg : Gl X "list" := by rfl) (hs : starEach (a :: []) X.env = (false, eval a X.env) :: starEach [] X.env := by rfl) (hpl : (backTo pos (starEach [] X.env)).any (·.1) = false := by rfl) :
    PD X b (.Call (.Name "list" p) [a] [] pos) (uB fList2 u) := d_t1 (callR_or call_list_of (cr_listStr hc)) lc_list2 hm (by decide +kernel) h1 hg (hs := hs) (hpl := hpl)
/-- xs[::-1] -/
def uRev (u : DE) : DE := fun e P => u e fun r => ∃ xs, r.look = .lst xs ∧ P (.ow (.lst xs.reverse))
theorem d_revL {a : Expr} {u : DE} {k : Nat} {p1 p2 p3 pos : Pos} (h : PD X b a u) : PD X b (.Subscript a (.Slice none none (some (.UnaryOp .USub (.Constant (.int 1) k p1) p2)) p3) pos) (uRev u) := by
  obtain ⟨t, p, l⟩ := h
  refine ⟨_, pe_revL p, ?_⟩
  intro L G0 H0 G H σ e P Q g hu kk
  refine l L G0 H0 G H σ e _ _ g hu fun v r G1 H1 s1 hr q => ?_
  have g1 := g.step s1
  obtain ⟨xs, hx, hp⟩ := q
  have tp := hr.top g1
  rw [hx] at tp
  obtain ⟨a, vs, rfl, ha, hra⟩ := tp
  exact ⟨a, vs, rfl, SqL.of ha, g1.newL hra.reverse hp fun v r G2 H2 s2 hr2 p2 => kk v r G2 H2 (s1.trans s2) (hr2.back fun a hb z => s1.back a hb z) p2⟩
/-- -e of an int -/
def uNeg (u : DE) : DE := fun e P => u e fun r => ∃ i : Int, r = .sh (.int i) ∧ P (.sh (.int (-i)))
theorem d_neg {a : Expr} {u : DE} {pos : Pos} (h : PD X b a u) : PD X b (.UnaryOp .USub a pos) (uNeg u) := by
  obtain ⟨t, p, l⟩ := h
  refine ⟨_, pe_un un_neg p, ?_⟩
  intro L G0 H0 G H σ e P Q g hu kk
  refine l L G0 H0 G H σ e _ _ g hu fun v r G1 H1 s1 hr q => ?_
  obtain ⟨i, rfl, hp⟩ := q
  cases hr
  exact ⟨i, rfl, kk _ (.sh (.int (-i))) G1 H1 s1 rfl hp⟩
/-- a raised class that is never reached -/
theorem ds_skip {st : Stmt} : PDS X b st uNever := ds_never

/-- zip of two lists, of two tuples -/
theorem jok_zipT {L : Lk} {G1 : Hp} {a c : Addr} {vs ws : List V} {xs ys : List D} (h : G1 a = some (.tup vs) ∨ WT K a vs) (hr : RepL K G1 xs vs) (h' : G1 c = some (.tup ws) ∨ WT K c ws) (hr' : RepL K G1 ys ws) : JOk K b L G1 (RZ.ItzT K a c) (zips xs ys) := fun G H sub ex _ i => by
  have q : SqT K H a vs := ex_tup ex (h.imp (sub _ _) id)
  have q' : SqT K H c ws := ex_tup ex (h'.imp (sub _ _) id)
  refine ⟨fun y hy => ?_, fun hi => ⟨vs, ws, q, q', ?_⟩⟩
  · obtain ⟨x, y, hx, hx', rfl⟩ := zips_get hy
    obtain ⟨v, hv, hd⟩ := (hr.mono sub).get hx
    obtain ⟨w, hw, hd'⟩ := (hr'.mono sub).get hx'
    refine ⟨⟨vs, ws, v, w, q, q', hv, hw⟩, fun u H' hy => ?_⟩
    obtain ⟨T, z, z', rfl, hT, rfl, hz, hz'⟩ := hy
    have e := hz vs q
    have e' := hz' ws q'
    rw [hv] at e
    rw [hw] at e'
    cases e
    cases e'
    have s := sub_upd (o := .tup [v, w]) (ex.none hT)
    exact ⟨_, Stp.laid ex hT, T, _, rfl, .inl upd_same, _, _, rfl, hd.mono s, _, _, rfl, hd'.mono s, rfl⟩
  · rw [hr.length, hr'.length]
    unfold zips at hi
    rw [List.length_zipWith] at hi
    omega
def zipD (P : List D → Prop) : List D → Prop
  | [.lst xs, .lst ys] => P (zips xs ys)
  | [.tup xs, .tup ys] => P (zips xs ys)
  | _ => False
def uZip (ua : DA) : DI := fun e P => ua e (zipD P)
theorem di_zip {a c : Expr} {ua : DA} {p pos tpos : Pos} {elts : List Expr} {kk : Nat} (hm : X.mg "zip" = none) (h : PDA X b [a, c] ua) (hg : Gl X "zip" := by rfl) (hs : starEach [a, c] X.env = (false, eval a X.env) :: starEach [c] X.env := by rfl) (hpl : (backTo pos (starEach [c] X.env)).any (·.1) = false := by rfl) :
    PDI X b (.Tuple elts kk tpos) (.Call (.Name "zip" p) [a, c] [] pos) (uZip ua) := by
  obtain ⟨t, p, l⟩ := h
  refine ⟨_, RZ.pi_zipA hg hm p hs hpl, ?_⟩
  intro L G0 H0 G H σ e P Q g hu k
  refine l L G0 H0 G H σ e _ _ g hu fun vs ds G1 H1 s1 hr q => ?_
  unfold zipD at q
  split at q
  · obtain ⟨v, r, rfl, hv, hr⟩ := hr
    obtain ⟨a, vs, rfl, ha, hra⟩ := hv
    obtain ⟨v, r, rfl, hv, hr⟩ := hr
    obtain ⟨c, ws, rfl, hc, hrc⟩ := hv
    cases hr
    exact ⟨a, c, vs, ws, rfl, .inl ⟨SqL.of (ex_lst s1.ex ha), SqL.of (ex_lst s1.ex hc), k _ _ G1 H1 s1 (jok_zip ha hra hc hrc) q⟩⟩
  · obtain ⟨v, r, rfl, hv, hr⟩ := hr
    obtain ⟨a, vs, rfl, ha, hra⟩ := hv
    obtain ⟨v, r, rfl, hv, hr⟩ := hr
    obtain ⟨c, ws, rfl, hc, hrc⟩ := hv
    cases hr
    exact ⟨a, c, vs, ws, rfl, .inr ⟨ex_tup s1.ex ha, ex_tup s1.ex hc, k _ _ G1 H1 s1 (jok_zipT ha hra hc hrc) q⟩⟩
  · exact q.elim
/-! ### the law's own text -/
/-- the first draw's source -/
def spBag (K : PySem.W.Frag) : Sp := fun vs H Q _ => ∃ (a : Addr) (ns : List Int), vs = [.ref a] ∧ SqL K H a (ns.map V.int) ∧ ns.length ≤ 63 ∧
  ∀ (H' : Hp) (p s : Addr) (ms : List Int) (z : Int), H' p = some (.lst [.ref s, .int 0, .int 0, .int z]) → H' s = some (.lst (ms.map V.int)) → ms.length ≤ 63 → 0 ≤ z → z < 2147483549 → Q (.ref p) H'
def spLaw (K : PySem.W.Frag) : Sp := fun vs H Q _ => ∃ (a : Addr) (ns : List Int), vs = [.ref a] ∧ SqL K H a (ns.map V.int) ∧ ns.length ≤ 63 ∧ ∀ H', Q (.bl true) H'
section
variable {P : Program} {w : World} {mg : Str → Option Value} {base : Heap}
theorem law_text {qual : Str} {st : Stmt} {f : Addr} {fd : FuncData} {N : List Str} {k : Nat} {u : DS} {rest : List Stmt} {x y s1 : Str} {p1 p2 p3 p4 p5 : Pos} {M : List Str} (hst : defBody st = .Assign [.Name y p1] (.Call (.Name x p2) [.Name s1 p3] [] p4) p5 :: rest) (hN : N = s1 :: y :: M)
    (F : Fun K "law" qual st f fd) (S : FnScope N [s1] (defScope st)) (B : Known P w K mg base x k [s1] (spBag K))
    (h0 : ∀ (cdv : Value) (A : Around) (outer : List Env) (s : Shared) (H : Hp) (E : XK), ∀ {t : TE}, PE (cxOf CX0 P w K mg base N qual (defScope st) f cdv A outer s H E).nox (.Call (.Name x p2) [.Name s1 p3] [] p4) t → PS (cxOf CX0 P w K mg base N qual (defScope st) f cdv A outer s H E).nox (.Assign [.Name y p1] (.Call (.Name x p2) [.Name s1 p3] [] p4) p5) (tAsg t (gName 1)))
    (h1 : ∀ (cdv : Value) (A : Around) (outer : List Env) (s : Shared) (H : Hp) (E : XK), Room k (A.deeper (envOfC qual (defScope st) s.heap.objs.size f cdv)) → PE (cxOf CX0 P w K mg base N qual (defScope st) f cdv A outer s H E).nox (.Call (.Name x p2) [.Name s1 p3] [] p4) (tCall (spBag K) [] E0 (tCons (tVar 0) tNil)))
    (hb : ∀ (b : Option Addr) (cdv : Value) (A : Around) (outer : List Env) (s : Shared) (H : Hp) (E : XK), Room k (A.deeper (envOfC qual (defScope st) s.heap.objs.size f cdv)) → PDSs (cxOf CX0 P w K mg base N qual (defScope st) f cdv A outer s H E).nox (bN b) rest u)
    (hu : u ⟨fun _ => False, fun r _ => r = .sh (.bl true), fun _ => False, fun _ => False⟩ (.un :: .bag :: List.replicate M.length .un)) : FnOk P w K mg base CX0 (k + 1) f fd [s1] (spLaw K) := by
  refine F.ok S (fun vs H Q E h => ?_) (fun cdv A outer s H vs Q E hr h => ?_)
  · obtain ⟨a, ns, rfl, _⟩ := h; rfl
  · obtain ⟨a, ns, rfl, hS, hl, kk⟩ := h
    have q : ∀ b : Option Addr, ∃ t, PSs (cxOf CX0 P w K mg base N qual (defScope st) f cdv A outer s H E).nox rest t ∧ LS K (bN b) t u := fun b => (hb b cdv A outer s H E hr).ex
    have pr : PSs (cxOf CX0 P w K mg base N qual (defScope st) f cdv A outer s H E).nox rest (fun D σ H => ∃ b, (q b).choose D σ H) :=
      ⟨fun pins s' σ H' D I ⟨b, hh⟩ => (q b).choose_spec.1.run pins s' σ H' D I hh⟩
    rw [hst]
    refine ⟨_, pss_cons (h0 cdv A outer s H E (h1 cdv A outer s H E hr)) pr, ?_⟩
    subst hN
    refine ⟨_, rfl, a, ns, rfl, hS, hl, fun H' p sa ms z hp hs hm z0 z1 => ?_⟩
    refine ⟨some p, ?_⟩
    have np : p ≠ sa := ne_of hp hs (fun z => by
      injection z with z
      cases ms with
      | nil => cases z
      | cons m ms => rw [List.map_cons] at z; injection z with z; cases z)
    have ex : Ex (L2.upd (fun _ => none) sa (.lst (ms.map V.int))) H' := fun c o h => by
      by_cases e : c = sa
      · subst e; rw [upd_same] at h; cases h; exact .inl hs
      · rw [upd_ne e] at h; cases h
    have es : (L2.start (s1 :: y :: M) [.ref a]).set 1 (some (.ref p)) = some (.ref a) :: some (.ref p) :: List.replicate M.length none := rfl
    show (q (some p)).choose _ ((L2.start (s1 :: y :: M) [.ref a]).set 1 (some (.ref p))) H'
    rw [es]
    refine (q (some p)).choose_spec.2 [] _ H' _ H' _ _ ⟨fun _ => False, fun r _ => r = .sh (.bl true), fun _ => False, fun _ => False⟩ _ ⟨⟨Stp.refl ex, fun i x e => ?_, fun i j t t' o o' c h1 _ _ _ => ?_, fun c hc => ?_, fun c od u m => (by cases m), ?_⟩, xl_n⟩
      ⟨fun G' H' σ e g h => h.elim, fun G' H' σ e v r g hr h => ?_, fun G' H' σ e g h => h.elim, fun G' H' σ e g h => h.elim⟩ hu
    · match i with
      | 0 => cases e; trivial
      | 1 => cases e; exact ⟨p, rfl, rfl⟩
      | i + 2 =>
        have e' : (List.replicate M.length Sl.un)[i]? = some x := e
        rw [List.getElem?_replicate] at e'
        split at e'
        · cases e'; trivial
        · cases e'
    · match i with
      | 0 => cases h1
      | 1 => cases h1
      | i + 2 =>
        have e' : (List.replicate M.length Sl.un)[i]? = some (.own t o) := h1
        rw [List.getElem?_replicate] at e'
        split at e' <;> cases e'
    · cases hc
      exact ⟨upd_ne np, sa, ms, 0, 0, z, hp, upd_same, Nat.zero_le _, hm, Int.le_refl 0, z0, z1⟩
    · simp
    · subst h
      cases hr
      exact kk H'
end
end
end DL
namespace DL
open PySem L2 PyProof.Rows
section
variable {K : PySem.W.Frag} {P : Program} {w : World} {mg : Str → Option Value} {base : Heap}
/-- what the source of draws holds -/
structure BagD (ns : List Int) (i : Nat) (m z : Int) : Prop where
  hi : i ≤ ns.length
  hl : ns.length ≤ 63
  hm : 0 ≤ m
  hz : 0 ≤ z
  hz' : z < 2147483549
def bagL (ns : List Int) (i : Nat) (m z : Int) : List D := [.lst (ns.map .int), .int i, .int m, .int z]
/-- a draw: some number below n -/
def fPull : FS := fun ds P => ∃ n : Int, ds = [.int n] ∧ 0 < n ∧ n ≤ 1000000 ∧ ∀ j : Int, 0 ≤ j → j < n → P (.sh (.int j))
theorem bag_of {G H : Hp} {a : Addr} {ho : HO} {ns : List Int} {i : Nat} {m z : Int} (hg : G a = none) (h : H a = some ho) (r : RepO K G (.lst (bagL ns i m z)) ho) (b : BagD ns i m z) : BagOk G H a := by
  obtain ⟨vs, rfl, v0, r0, rfl, ⟨s, ws, rfl, hs, hw⟩, v1, r1, rfl, h1, v2, r2, rfl, h2, v3, r3, rfl, h3, h4⟩ := r
  cases h1; cases h2; cases h3; cases h4
  refine ⟨hg, s, ns, i, m, z, h, ?_, b.hi, b.hl, b.hm, b.hz, b.hz'⟩
  rw [hs, repL_int hw]
theorem of_bag {G H : Hp} {a : Addr} (h : BagOk G H a) : G a = none ∧ ∃ ho ns i m z, H a = some ho ∧ RepO K G (.lst (bagL ns i m z)) ho ∧ BagD ns i m z := by
  obtain ⟨hg, s, ns, i, m, z, h1, h2, h3, h4, h5, h6, h7⟩ := h
  exact ⟨hg, _, ns, i, m, z, h1, ⟨_, rfl, _, _, rfl, ⟨s, _, rfl, h2, repL_map (f := D.int) (g := V.int) (fun _ => rfl) ns⟩, _, _, rfl, rfl, _, _, rfl, rfl, _, _, rfl, rfl, rfl⟩, ⟨h3, h4, h5, h6, h7⟩⟩
theorem fn_pull {x qual : Str} {st : Stmt} {f : Addr} {fd : FuncData} {N ps : List Str} {k : Nat} {u : DS} (F : Fun K x qual st f fd) (hm : mg x = some (.ref f)) (hbi : Binds K fd ps []) (S : FnScope N ps (defScope st)) (hps : ps.length = 2) (hN : ∃ n, N.length = n + 2 )
    (hb : ∀ (cdv : Value) (A : Around) (outer : List Env) (s : Shared) (H : Hp) (E : XK), Room k (A.deeper (envOfC qual (defScope st) s.heap.objs.size f cdv)) → PDSs (cxOf CX0 P w K mg base N qual (defScope st) f cdv A outer s H E).nox (bN none) (defBody st) u)
    (hu : ∀ (q : Option Addr) (ns : List Int) (i : Nat) (m z n : Int), BagD ns i m z → 0 < n → n ≤ 1000000 →
      u ⟨fun _ => False, fun r e => ∃ ns i m z j, nth e 0 = .own q (.lst (bagL ns i m z)) ∧ BagD ns i m z ∧ r = .sh (.int j) ∧ 0 ≤ j ∧ j < n, fun _ => False, fun _ => False⟩ (.own q (.lst (bagL ns i m z)) :: .sh (.int n) :: List.replicate (N.length - 2) .un)) : Known P w K mg base x (k + 1) ps (spB K fPull) := by
  refine ⟨f, fd, F.ok S (fun vs H Q E h => ?_) (fun cdv A outer s H vs Q E hr h => ?_), hm, F.kp, hbi⟩
  · obtain ⟨a, vs', G, ds, P, rfl, _, _, hr, ⟨n, rfl, _⟩, _⟩ := h
    rw [List.length_cons, hr.length, hps]; rfl
  · obtain ⟨a, vs', G, ds, P', rfl, ex, hbag, hds, ⟨n, rfl, n0, n1, hp⟩, kk⟩ := h
    obtain ⟨v, r, rfl, hv, hr'⟩ := hds
    cases hv
    cases hr'
    obtain ⟨t, p, l⟩ := hb cdv A outer s H E hr
    obtain ⟨hg, ho, ns, i, m, z, hH, rO, hB⟩ := of_bag (K := K) hbag
    have es : L2.start N [.ref a, .int n] = some (.ref a) :: some (.int n) :: List.replicate (N.length - 2) none := rfl
    refine ⟨t, p, ?_⟩
    rw [es]
    -- the source is the def's own for the time being
    let H0 : Hp := fun c => if c = a then none else H c
    have h0a : H0 a = none := if_pos rfl
    have h0n : ∀ c, c ≠ a → H0 c = H c := fun c h => if_neg h
    have ea : ∀ {c : Addr} {o : HO}, H0 c = some o → c ≠ a ∧ H c = some o := fun {c o} h => by
      have hc : c ≠ a := fun z => by rw [z, h0a] at h; cases h
      exact ⟨hc, by rw [← h0n c hc]; exact h⟩
    have gd : Good K (bN none) [] G H0 G H (some (.ref a) :: some (.int n) :: List.replicate (N.length - 2) none) (.own (some a) (.lst (bagL ns i m z)) :: .sh (.int n) :: List.replicate (N.length - 2) .un) := by
      refine ⟨⟨⟨Sub.refl G, fun c o _ _ h => .inl (ea h).2, fun _ _ _ h => h, ex, fun c h => (by cases h)⟩, fun j y e => ?_, fun j j' q q' o o' c e1 e2 _ _ => ?_, fun c h => (by cases h), fun c od u m => (by cases m), by simp⟩, xl_n⟩
      · match j with
        | 0 => cases e; exact ⟨a, ho, rfl, by simp, h0a, hg, hH, rO, fun a0 h => by cases h; rfl⟩
        | 1 => cases e; exact ⟨.int n, rfl, rfl⟩
        | j + 2 =>
          have e' : (List.replicate (N.length - 2) Sl.un)[j]? = some y := e
          rw [List.getElem?_replicate] at e'
          split at e'
          · cases e'; trivial
          · cases e'
      · have z : ∀ {j : Nat} {q : Option Addr} {o : OD}, (Sl.own (some a) (.lst (bagL ns i m z)) :: .sh (.int n) :: List.replicate (N.length - 2) .un)[j]? = some (.own q o) → j = 0 := fun {j q o} e => by
          match j with
          | 0 => rfl
          | 1 => cases e
          | j + 2 =>
            have e' : (List.replicate (N.length - 2) Sl.un)[j]? = some (.own q o) := e
            rw [List.getElem?_replicate] at e'
            split at e' <;> cases e'
        rw [z e1, z e2]
    refine l [] G H0 G H _ _ ⟨fun _ => False, fun r e => ∃ ns i m z j, nth e 0 = .own (some a) (.lst (bagL ns i m z)) ∧ BagD ns i m z ∧ r = .sh (.int j) ∧ 0 ≤ j ∧ j < n, fun _ => False, fun _ => False⟩ _ gd ⟨fun G' H' σ e g h => h.elim, fun G' H' σ e v r g hr h => ?_, fun G' H' σ e g h => h.elim, fun G' H' σ e g h => h.elim⟩ (hu (some a) ns i m z n hB n0 n1)
    obtain ⟨ns', i', m', z', j, he, hB', rfl, j0, j1⟩ := h
    cases hr
    obtain ⟨a', ho', q1, q2, q3, q4, q5, q6, q7⟩ := g.slot 0 _ (nth_get he (by simp))
    have eqa := q7 a rfl
    subst eqa
    have hb' : BagOk G' H' a' := bag_of q4 q5 q6 hB'
    refine kk (.int j) (.sh (.int j)) G' H' ⟨g.stp.g, fun c o hc nm h => .inl ?_, fun c hc h hgc => ?_, g.stp.ex, fun c hc _ => ?_⟩ rfl (hp j j0 j1)
    · have nc : c ≠ a' := fun z => hc (by rw [z])
      exact g.stp.fr0 (by simp) (by rw [h0n c nc]; exact h)
    · have nc : c ≠ a' := fun z => hc (by rw [z])
      exact g.stp.new c (by simp) (by rw [h0n c nc]; exact h) hgc
    · cases hc; exact hb'
/-- a def of the text stands at its name -/
structure Here (K : PySem.W.Frag) (mg : Str → Option Value) (x : Str) (st : Stmt) (ps : List Str) : Prop where
  ex : ∃ f fd, Fun K x x st f fd ∧ mg x = some (.ref f) ∧ Binds K fd ps []
theorem here_mk {h : Heap} {x : Str} {st : Stmt} {ps : List Str} {f : Addr} {oc : Value} {od an : Option Addr} {osl : Array (Option Value)} {kV doc pm cdv ct : Value} (X : K.In h) (G : h.Ns mainGlobals mg) (a : PySem.W.nsIn K mainGlobals x = some (some (.ref f)))
    (l : K.lookup f = some ⟨oc, od, .func (PySem.W.fnOf x x (defArgs st) (defBody st) (defScope st) .none kV doc pm an cdv ct), osl⟩) (c : PySem.W.codeIn K cdv x = true) (k : PySem.W.keepIn K (.ref f) = true)
    (hb : ∀ (kV doc pm : Value) (an : Option Addr) (cdv ct : Value) (us : List Value), us.length = ps.length → bindArgs (PySem.W.fnOf x x (defArgs st) (defBody st) (defScope st) .none kV doc pm an cdv ct) ⟨us, []⟩ = pure (ps.zip us)) : Here K mg x st ps :=
  ⟨f, _, fun_mk l c k, PySem.W.mg_of X G a, (fun_mk (st := st) l c k).binds hb⟩
theorem Known.mono {x : Str} {j k : Nat} {ps : List Str} {sp : Sp} (F : Known P w K mg base x j ps sp) (h : j ≤ k) : Known P w K mg base x k ps sp := by
  obtain ⟨f, fd, F1, h1, h2, h3⟩ := F
  exact ⟨f, fd, F1.mono h, h1, h2, h3⟩
end
end DL
namespace DL
open PySem L2 PyProof.Rows
section
variable {X : Cx} {b : Bg} {K : PySem.W.Frag}
/-! ### isinstance of data against built-in types -/
inductive TyE where
  | non | bl | int | str | lst | tup | dk
  deriving DecidableEq
def TyE.s : TyE → String
  | .non => "NoneType"
  | .bl => "bool"
  | .int => "int"
  | .str => "str"
  | .lst => "list"
  | .tup => "tuple"
  | .dk => "dict"
def tyD : D → Option TyE
  | .non => some .non
  | .bl _ => some .bl
  | .int _ => some .int
  | .str _ => some .str
  | .lst _ => some .lst
  | .tup _ => some .tup
  | .dk _ => some .dk
  | _ => none
def TyE.is : TyE → TyE → Bool
  | .bl, .int => true
  | a, b => decide (a = b)
theorem kit_tbl (a b : TyE) (hb : b ≠ .non) : kitB a.s b.s = some (a.is b) := by
  cases a <;> cases b <;> first | exact absurd rfl hb | decide +kernel
theorem tyX_of {G H : Hp} {d : D} {v : V} {t : TyE} (h : Top K G H d v) (e : tyD d = some t) : TyX K H v (.type t.s) := by
  cases d with
  | non => cases e; cases h; exact .base .non
  | bl c => cases e; cases h; exact .base (.bl c)
  | int c => cases e; cases h; exact .base (.int c)
  | str c => cases e; cases h; exact .base (.str c)
  | lst xs => cases e; obtain ⟨a, vs, rfl, ha, _⟩ := h; exact .base (.lst ha)
  | tup xs =>
    cases e
    obtain ⟨a, vs, rfl, ha, _⟩ := h
    rcases ha with (ha | ⟨o, ha⟩) | ⟨o, its, n, h1, h2, _⟩
    · exact .base (.tup ha)
    · exact .fTuple ha
    · exact .kTuple h1 h2
  | dk xs =>
    cases e
    obtain ⟨a, vs, rfl, ha, _⟩ := h
    rcases ha with ha | ⟨o, ha⟩
    · exact .base (.dK ha)
    · exact .fDict ha
  | obj _ _ => cases e
  | fn _ => cases e
  | exc _ _ => cases e
  | tabl _ _ => cases e
def uIsi (T : TyE) (u : DE) : DE := fun e P => u e fun r => orF (fun t => P (.sh (.bl (t.is T)))) (tyD r.look)
theorem d_isi {T : TyE} {x : Str} {a : Expr} {u : DE} {p p2 pos : Pos} (hm : X.mg "isinstance" = none) (hmT : X.mg x = none) (hvT : bootBuiltins x = some (.type T.s)) (hT : T ≠ .non) (h : PD X b a u) (hg : Gl X "isinstance" := by rfl) (hgT : Gl X x := by rfl) (hn : x ≠ "__name__" := by decide) (hd : (x == ("__debug__" : Str)) = false := by decide)
    (hs : starEach (a :: [.Name x p2]) X.env = (false, eval a X.env) :: starEach [.Name x p2] X.env := by rfl) (hs2 : starEach (.Name x p2 :: []) X.env = (false, eval (.Name x p2) X.env) :: starEach [] X.env := by rfl) (hpl : (backTo pos (starEach [.Name x p2] X.env)).any (·.1) = false := by rfl) :
    PD X b (.Call (.Name "isinstance" p) [a, .Name x p2] [] pos) (uIsi T u) := by
  obtain ⟨t1, p1, l1⟩ := h
  refine ⟨_, pe_callB call_isi hg hm (by decide +kernel) (pa_cons p1 (pa_cons (pe_bltn (v := .ty T.s) hgT hmT hvT rfl hn hd) pa_nil hs2) hs) (by decide) (by decide) hs hpl, ?_⟩
  intro L G0 H0 G H σ e P Q g hu k
  refine l1 L G0 H0 G H σ e _ _ g hu fun v r G1 H1 s1 hr q => ?_
  obtain ⟨t, ht, hp⟩ := orF_of q
  have tp := hr.top (g.step s1)
  exact ⟨v, .ty T.s, .type t.s, .type T.s, t.is T, rfl, .ty _, tyX_of tp ht, kit_ty (kit_tbl t T hT), k _ (.sh (.bl (t.is T))) G1 H1 s1 rfl hp⟩
def uIsi2 (T T2 : TyE) (u : DE) : DE := fun e P => u e fun r => orF (fun t => P (.sh (.bl (t.is T || t.is T2)))) (tyD r.look)
theorem d_isi2 {T T2 : TyE} {x y : Str} {a : Expr} {u : DE} {p p2 p3 pt pos : Pos} {kk} (hm : X.mg "isinstance" = none) (hmT : X.mg x = none) (hvT : bootBuiltins x = some (.type T.s)) (hT : T ≠ .non) (hmT2 : X.mg y = none) (hvT2 : bootBuiltins y = some (.type T2.s)) (hT2 : T2 ≠ .non) (h : PD X b a u)
    (hg : Gl X "isinstance" := by rfl) (hgT : Gl X x := by rfl) (hgT2 : Gl X y := by rfl) (hn : x ≠ "__name__" := by decide) (hd : (x == ("__debug__" : Str)) = false := by decide) (hn2 : y ≠ "__name__" := by decide) (hd2 : (y == ("__debug__" : Str)) = false := by decide)
    (hs : starEach (a :: [.Tuple [.Name x p2, .Name y p3] kk pt]) X.env = (false, eval a X.env) :: starEach [.Tuple [.Name x p2, .Name y p3] kk pt] X.env := by rfl) (hs2 : starEach (.Tuple [.Name x p2, .Name y p3] kk pt :: []) X.env = (false, eval (.Tuple [.Name x p2, .Name y p3] kk pt) X.env) :: starEach [] X.env := by rfl)
    (hs3 : starEach (.Name x p2 :: [.Name y p3]) X.env = (false, eval (.Name x p2) X.env) :: starEach [.Name y p3] X.env := by rfl) (hs4 : starEach (.Name y p3 :: []) X.env = (false, eval (.Name y p3) X.env) :: starEach [] X.env := by rfl) (hpl : (backTo pos (starEach [.Tuple [.Name x p2, .Name y p3] kk pt] X.env)).any (·.1) = false := by rfl) :
    PD X b (.Call (.Name "isinstance" p) [a, .Tuple [.Name x p2, .Name y p3] kk pt] [] pos) (uIsi2 T T2 u) := by
  obtain ⟨t1, p1, l1⟩ := h
  refine ⟨_, pe_callB call_isiT hg hm (by decide +kernel) (pa_cons p1 (pa_cons (pe_tup (pa_cons (pe_bltn (v := .ty T.s) hgT hmT hvT rfl hn hd) (pa_cons (pe_bltn (v := .ty T2.s) hgT2 hmT2 hvT2 rfl hn2 hd2) pa_nil hs4) hs3)) pa_nil hs2) hs) (by decide) (by decide) hs hpl, ?_⟩
  intro L G0 H0 G H σ e P Q g hu k
  refine l1 L G0 H0 G H σ e _ _ g hu fun v r G1 H1 s1 hr q => ?_
  obtain ⟨t, ht, hp⟩ := orF_of q
  have g1 := g.step s1
  refine ⟨le_line (by show 2 ≤ 1000000; decide), fun q nq => ?_⟩
  have s2 : Stp b [] G1 H1 (L2.upd G1 q (.tup [.ty T.s, .ty T2.s])) (L2.upd H1 q (.tup [.ty T.s, .ty T2.s])) := Stp.laid g1.ex nq
  have g2 := g1.step s2
  have tp := (hr.step s2).top g2
  refine ⟨v, q, _, .type t.s, [.type T.s, .type T2.s], t.is T || t.is T2, rfl, upd_same, .cons (.ty _) (.cons (.ty _) .nil), tyX_of tp ht, ?_, k _ (.sh (.bl (t.is T || t.is T2))) _ _ (s1.trans s2) rfl hp⟩
  refine kitAny_cons (kit_ty (kit_tbl t T hT)) (fun h => ?_) (fun h => by rw [h]; rfl)
  rw [h, Bool.false_or]
  exact kitAny_cons (kit_ty (kit_tbl t T2 hT2)) (fun h => by rw [h]; exact kitAny_nil) (fun h => h)
end
end DL
namespace DL
open PySem L2 PyProof.Rows
section
variable {X : Cx} {b : Bg} {K : PySem.W.Frag}
/-- what holds between two statements is said -/
def uCut (u1 u2 : DS) : DS := fun DD e => ∃ M : List Sl → Prop, u1 { DD with nx := M } e ∧ ∀ e', M e' → u2 DD e'
theorem dss_cut {st : Stmt} {rest : List Stmt} {u1 u2 : DS} (h1 : PDS X b st u1) (h2 : PDSs X b rest u2) : PDSs X b (st :: rest) (uCut u1 u2) := by
  obtain ⟨t1, p1, l1⟩ := h1
  obtain ⟨t2, p2, l2⟩ := h2
  refine ⟨_, pss_cons p1 p2, ?_⟩
  intro L G0 H0 G H σ e DD D g ok h
  obtain ⟨M, h, k⟩ := h
  exact l1 L G0 H0 G H σ e { DD with nx := M } { D with nx := t2 D } g ⟨fun G H σ e g h => l2 L G0 H0 G H σ e DD D g ok (k e h), ok.rt, ok.bk, ok.ct⟩ h
end
theorem ite_dec {p : Prop} [Decidable p] {A B : Prop} (h1 : p → A) (h2 : ¬ p → B) : if decide p = true then A else B := by
  by_cases h : p
  · rw [if_pos (decide_eq_true h)]; exact h1 h
  · rw [if_neg (by rw [decide_eq_false h]; decide)]; exact h2 h
theorem ite_not {p : Prop} [Decidable p] {A B : Prop} (h1 : ¬ p → A) (h2 : p → B) : if (!decide p) = true then A else B := by
  by_cases h : p
  · rw [decide_eq_true h]; exact h2 h
  · rw [decide_eq_false h]; exact h1 h
theorem ite_b {c : Bool} {A B : Prop} (h1 : c = true → A) (h2 : c = false → B) : if c = true then A else B := by
  cases c with
  | true => exact h1 rfl
  | false => exact h2 rfl
theorem ite_t {A B : Prop} (h : A) : if true = true then A else B := h
theorem ite_f {A B : Prop} (h : B) : if false = true then A else B := h
theorem ite_of {c : Bool} {A B : Prop} (e : c = true) (h : A) : if c = true then A else B := by subst e; exact h
theorem ite_on {c : Bool} {A B : Prop} (e : c = false) (h : B) : if c = true then A else B := by subst e; exact h
/-! ### equations -/
theorem e_nth0 {x : Sl} {xs : List Sl} : nth (x :: xs) 0 = x := rfl
theorem e_nth1 {x : Sl} {xs : List Sl} : nth (x :: xs) 1 = nth xs 0 := rfl
theorem e_nth2 {x : Sl} {xs : List Sl} : nth (x :: xs) 2 = nth xs 1 := rfl
theorem e_nth3 {x : Sl} {xs : List Sl} : nth (x :: xs) 3 = nth xs 2 := rfl
theorem e_nth4 {x : Sl} {xs : List Sl} : nth (x :: xs) 4 = nth xs 3 := rfl
theorem e_nth5 {x : Sl} {xs : List Sl} : nth (x :: xs) 5 = nth xs 4 := rfl
theorem e_nth6 {x : Sl} {xs : List Sl} : nth (x :: xs) 6 = nth xs 5 := rfl
theorem e_nth7 {x : Sl} {xs : List Sl} : nth (x :: xs) 7 = nth xs 6 := rfl
theorem e_nth8 {x : Sl} {xs : List Sl} : nth (x :: xs) 8 = nth xs 7 := rfl
theorem e_nth9 {x : Sl} {xs : List Sl} : nth (x :: xs) 9 = nth xs 8 := rfl
theorem e_nth10 {x : Sl} {xs : List Sl} : nth (x :: xs) 10 = nth xs 9 := rfl
theorem e_nth11 {x : Sl} {xs : List Sl} : nth (x :: xs) 11 = nth xs 10 := rfl
theorem e_nth12 {x : Sl} {xs : List Sl} : nth (x :: xs) 12 = nth xs 11 := rfl
theorem e_nth13 {x : Sl} {xs : List Sl} : nth (x :: xs) 13 = nth xs 12 := rfl
theorem e_nth14 {x : Sl} {xs : List Sl} : nth (x :: xs) 14 = nth xs 13 := rfl
theorem e_nth15 {x : Sl} {xs : List Sl} : nth (x :: xs) 15 = nth xs 14 := rfl
theorem e_nth16 {x : Sl} {xs : List Sl} : nth (x :: xs) 16 = nth xs 15 := rfl
theorem e_nth17 {x : Sl} {xs : List Sl} : nth (x :: xs) 17 = nth xs 16 := rfl
theorem e_nth18 {x : Sl} {xs : List Sl} : nth (x :: xs) 18 = nth xs 17 := rfl
theorem e_nth19 {x : Sl} {xs : List Sl} : nth (x :: xs) 19 = nth xs 18 := rfl
theorem e_nth20 {x : Sl} {xs : List Sl} : nth (x :: xs) 20 = nth xs 19 := rfl
theorem e_nth21 {x : Sl} {xs : List Sl} : nth (x :: xs) 21 = nth xs 20 := rfl
theorem e_nth22 {x : Sl} {xs : List Sl} : nth (x :: xs) 22 = nth xs 21 := rfl
theorem e_nth23 {x : Sl} {xs : List Sl} : nth (x :: xs) 23 = nth xs 22 := rfl
theorem e_nth24 {x : Sl} {xs : List Sl} : nth (x :: xs) 24 = nth xs 23 := rfl
theorem e_nth25 {x : Sl} {xs : List Sl} : nth (x :: xs) 25 = nth xs 24 := rfl
theorem e_set0 {α : Type} {x y : α} {xs : List α} : List.set (x :: xs) 0 y = y :: xs := rfl
theorem e_set1 {α : Type} {x y : α} {xs : List α} : List.set (x :: xs) 1 y = x :: List.set xs 0 y := rfl
theorem e_set2 {α : Type} {x y : α} {xs : List α} : List.set (x :: xs) 2 y = x :: List.set xs 1 y := rfl
theorem e_set3 {α : Type} {x y : α} {xs : List α} : List.set (x :: xs) 3 y = x :: List.set xs 2 y := rfl
theorem e_set4 {α : Type} {x y : α} {xs : List α} : List.set (x :: xs) 4 y = x :: List.set xs 3 y := rfl
theorem e_set5 {α : Type} {x y : α} {xs : List α} : List.set (x :: xs) 5 y = x :: List.set xs 4 y := rfl
theorem e_set6 {α : Type} {x y : α} {xs : List α} : List.set (x :: xs) 6 y = x :: List.set xs 5 y := rfl
theorem e_set7 {α : Type} {x y : α} {xs : List α} : List.set (x :: xs) 7 y = x :: List.set xs 6 y := rfl
theorem e_set8 {α : Type} {x y : α} {xs : List α} : List.set (x :: xs) 8 y = x :: List.set xs 7 y := rfl
theorem e_set9 {α : Type} {x y : α} {xs : List α} : List.set (x :: xs) 9 y = x :: List.set xs 8 y := rfl
theorem e_set10 {α : Type} {x y : α} {xs : List α} : List.set (x :: xs) 10 y = x :: List.set xs 9 y := rfl
theorem e_set11 {α : Type} {x y : α} {xs : List α} : List.set (x :: xs) 11 y = x :: List.set xs 10 y := rfl
theorem e_set12 {α : Type} {x y : α} {xs : List α} : List.set (x :: xs) 12 y = x :: List.set xs 11 y := rfl
theorem e_set13 {α : Type} {x y : α} {xs : List α} : List.set (x :: xs) 13 y = x :: List.set xs 12 y := rfl
theorem e_set14 {α : Type} {x y : α} {xs : List α} : List.set (x :: xs) 14 y = x :: List.set xs 13 y := rfl
theorem e_set15 {α : Type} {x y : α} {xs : List α} : List.set (x :: xs) 15 y = x :: List.set xs 14 y := rfl
theorem e_set16 {α : Type} {x y : α} {xs : List α} : List.set (x :: xs) 16 y = x :: List.set xs 15 y := rfl
theorem e_set17 {α : Type} {x y : α} {xs : List α} : List.set (x :: xs) 17 y = x :: List.set xs 16 y := rfl
theorem e_set18 {α : Type} {x y : α} {xs : List α} : List.set (x :: xs) 18 y = x :: List.set xs 17 y := rfl
theorem e_set19 {α : Type} {x y : α} {xs : List α} : List.set (x :: xs) 19 y = x :: List.set xs 18 y := rfl
theorem e_set20 {α : Type} {x y : α} {xs : List α} : List.set (x :: xs) 20 y = x :: List.set xs 19 y := rfl
theorem e_set21 {α : Type} {x y : α} {xs : List α} : List.set (x :: xs) 21 y = x :: List.set xs 20 y := rfl
theorem e_set22 {α : Type} {x y : α} {xs : List α} : List.set (x :: xs) 22 y = x :: List.set xs 21 y := rfl
theorem e_set23 {α : Type} {x y : α} {xs : List α} : List.set (x :: xs) 23 y = x :: List.set xs 22 y := rfl
theorem e_set24 {α : Type} {x y : α} {xs : List α} : List.set (x :: xs) 24 y = x :: List.set xs 23 y := rfl
theorem e_set25 {α : Type} {x y : α} {xs : List α} : List.set (x :: xs) 25 y = x :: List.set xs 24 y := rfl
theorem e_look1 {d : D} : R.look (.sh d) = d := rfl
theorem e_look2 {d : OD} : R.look (.ow d) = d.d := rfl
theorem e_look3 {i : Nat} {d : OD} : R.look (.al i d) = d.d := rfl
theorem e_keep1 {P : D → Prop} {d : D} : R.keep P (.sh d) = P d := rfl
theorem e_keep2 {P : D → Prop} {d : OD} : R.keep P (.ow d) = P d.d := rfl
theorem e_ret1 {d : D} : R.ret (.sh d) = .sh d := rfl
theorem e_ret2 {d : OD} : R.ret (.ow d) = .ow d := rfl
theorem e_ret3 {i : Nat} {d : OD} : R.ret (.al i d) = .ow d := rfl
theorem e_od1 {xs : List D} : OD.d (.lst xs) = .lst xs := rfl
theorem e_od2 {xs : List (Key × D)} : OD.d (.dk xs) = .dk xs := rfl
theorem e_od3 {C : Addr} {xs : List (Str × D)} : OD.d (.obj C xs) = .obj C xs := rfl
theorem e_asB {P : Bool → Prop} {c : Bool} : asB P (.sh (.bl c)) = P c := rfl
theorem e_asL {P : List D → Prop} {c : List D} : asL P (.lst c) = P c := rfl
theorem e_asT {P : List D → Prop} {c : List D} : asT P (.tup c) = P c := rfl
theorem e_asS {P : List D → Prop} {c : Str} : asS P (.str c) = P (signs c) := rfl
theorem e_asI {P : Option Int → Prop} {c : Int} : asI P (.sh (.int c)) = P (some c) := rfl
theorem e_add1 {i j : Int} {P : R → Prop} : fAdd (.int i) (.int j) P = P (.sh (.int (i + j))) := rfl
theorem e_add2 {i j : Str} {P : R → Prop} : fAdd (.str i) (.str j) P = (i.length + j.length ≤ 1000000 ∧ P (.sh (.str (i ++ j)))) := rfl
theorem e_add3 {i j : List D} {P : R → Prop} : fAdd (.lst i) (.lst j) P = (i.length + j.length ≤ 1000000 ∧ P (.ow (.lst (i ++ j)))) := rfl
theorem e_add4 {i j : List D} {P : R → Prop} : fAdd (.tup i) (.tup j) P = (i ≠ [] ∧ j ≠ [] ∧ i.length + j.length ≤ 1000000 ∧ P (.sh (.tup (i ++ j)))) := rfl
theorem e_fSub {i j : Int} {P : R → Prop} : fSub (.int i) (.int j) P = P (.sh (.int (i - j))) := rfl
theorem e_fAnd {i j : Int} {P : R → Prop} : fAnd (.int i) (.int j) P = P (.sh (.int (Builtin.bitAnd i j))) := rfl
theorem e_fXor {i j : Int} {P : R → Prop} : fXor (.int i) (.int j) P = P (.sh (.int (Builtin.bitXor i j))) := rfl
theorem e_fMul {i j : Int} {P : R → Prop} : fMul (.int i) (.int j) P = (CMul i j ∧ P (.sh (.int (i * j)))) := rfl
theorem e_fMod {i j : Int} {P : R → Prop} : fMod (.int i) (.int j) P = (0 < j ∧ P (.sh (.int (i % j)))) := rfl
theorem e_fDiv {i j : Int} {P : R → Prop} : fDiv (.int i) (.int j) P = (CDiv i j ∧ P (.sh (.int (i / j)))) := rfl
theorem e_fPow {i j : Int} {P : R → Prop} : fPow (.int i) (.int j) P = (CPow i j ∧ P (.sh (.int (i ^ j.toNat)))) := rfl
theorem e_fLt {i j : Int} {P : R → Prop} : fLt (.int i) (.int j) P = P (.sh (.bl (decide (i < j)))) := rfl
theorem e_fLe {i j : Int} {P : R → Prop} : fLe (.int i) (.int j) P = P (.sh (.bl (decide (i ≤ j)))) := rfl
theorem e_fLeI {i j : Int} {P : R → Prop} : fLeI (.int i) (.int j) P = P (.sh (.bl (decide (i ≤ j)))) := rfl
theorem e_fGt {i j : Int} {P : R → Prop} : fGt (.int i) (.int j) P = P (.sh (.bl (decide (j < i)))) := rfl
theorem e_fGe {i j : Int} {P : R → Prop} : fGe (.int i) (.int j) P = P (.sh (.bl (decide (j ≤ i)))) := rfl
theorem e_ltS {i j : Str} {P : R → Prop} : fLt (.str i) (.str j) P = P (.sh (.bl (decide (i.cps.toList < j.cps.toList)))) := rfl
theorem e_eq_int {i j : Int} {P : R → Prop} : fEq (.int i) (.int j) P = P (.sh (.bl (decide (i = j)))) := rfl
theorem e_ne_int {i j : Int} {P : R → Prop} : fNe (.int i) (.int j) P = P (.sh (.bl (!decide (i = j)))) := rfl
theorem e_eq_str {i j : Str} {P : R → Prop} : fEq (.str i) (.str j) P = P (.sh (.bl (decide (i = j)))) := rfl
theorem e_ne_str {i j : Str} {P : R → Prop} : fNe (.str i) (.str j) P = P (.sh (.bl (!decide (i = j)))) := rfl
theorem e_eq_bl {i j : Bool} {P : R → Prop} : fEq (.bl i) (.bl j) P = P (.sh (.bl (decide (i = j)))) := rfl
theorem e_ne_bl {i j : Bool} {P : R → Prop} : fNe (.bl i) (.bl j) P = P (.sh (.bl (!decide (i = j)))) := rfl
theorem e_eqx91 {i : Int} {s : Str} {P : R → Prop} : fEq (.non) (.non) P = P (.sh (.bl true)) := rfl
theorem e_nex92 {i : Int} {s : Str} {P : R → Prop} : fNe (.non) (.non) P = P (.sh (.bl (!true))) := rfl
theorem e_eqx93 {i : Int} {s : Str} {P : R → Prop} : fEq (.non) (.int i) P = P (.sh (.bl false)) := rfl
theorem e_nex94 {i : Int} {s : Str} {P : R → Prop} : fNe (.non) (.int i) P = P (.sh (.bl (!false))) := rfl
theorem e_eqx95 {i : Int} {s : Str} {P : R → Prop} : fEq (.int i) (.non) P = P (.sh (.bl false)) := rfl
theorem e_nex96 {i : Int} {s : Str} {P : R → Prop} : fNe (.int i) (.non) P = P (.sh (.bl (!false))) := rfl
theorem e_eqx97 {i : Int} {s : Str} {P : R → Prop} : fEq (.non) (.str s) P = P (.sh (.bl false)) := rfl
theorem e_nex98 {i : Int} {s : Str} {P : R → Prop} : fNe (.non) (.str s) P = P (.sh (.bl (!false))) := rfl
theorem e_eqx99 {i : Int} {s : Str} {P : R → Prop} : fEq (.str s) (.non) P = P (.sh (.bl false)) := rfl
theorem e_nex100 {i : Int} {s : Str} {P : R → Prop} : fNe (.str s) (.non) P = P (.sh (.bl (!false))) := rfl
theorem e_is {d : D} {P : R → Prop} : fIs d .non P = P (.sh (.bl (isN d))) := rfl
theorem e_isnot {d : D} {P : R → Prop} : fIsNot d .non P = P (.sh (.bl (!isN d))) := rfl
theorem e_isn0  : isN (.non) = true := rfl
theorem e_isn1 {c : Bool} : isN (.bl c) = false := rfl
theorem e_isn2 {c : Int} : isN (.int c) = false := rfl
theorem e_isn3 {c : Str} : isN (.str c) = false := rfl
theorem e_isn4 {c : List D} : isN (.lst c) = false := rfl
theorem e_isn5 {c : List D} : isN (.tup c) = false := rfl
theorem e_isn6 {c : List (Key × D)} : isN (.dk c) = false := rfl
theorem e_isn7 {C : Addr} {c : List (Str × D)} : isN (.obj C c) = false := rfl
theorem e_isn8 {C : Addr} : isN (.fn C) = false := rfl
theorem e_fIn1 {x : D} {xs : List D} {P : R → Prop} : fIn x (.lst xs) P = (flatD x = true ∧ xs.all flatD = true ∧ P (.sh (.bl (inD x xs)))) := rfl
theorem e_fIn2 {x : D} {xs : List D} {P : R → Prop} : fIn x (.tup xs) P = (flatD x = true ∧ xs.all flatD = true ∧ P (.sh (.bl (inD x xs)))) := rfl
theorem e_fIn3 {x : D} {z : Str} {P : R → Prop} : fIn x (.str z) P = (∃ c, x = .str (sign c) ∧ P (.sh (.bl (decide (c ∈ z.cps.toList))))) := rfl
theorem e_fNotIn1 {x : D} {xs : List D} {P : R → Prop} : fNotIn x (.lst xs) P = (flatD x = true ∧ xs.all flatD = true ∧ P (.sh (.bl (!inD x xs)))) := rfl
theorem e_fNotIn2 {x : D} {xs : List D} {P : R → Prop} : fNotIn x (.tup xs) P = (flatD x = true ∧ xs.all flatD = true ∧ P (.sh (.bl (!inD x xs)))) := rfl
theorem e_fNotIn3 {x : D} {z : Str} {P : R → Prop} : fNotIn x (.str z) P = (∃ c, x = .str (sign c) ∧ P (.sh (.bl (!decide (c ∈ z.cps.toList))))) := rfl
theorem e_sl1 {xs : List D} {lo hi : Option Int} {P : R → Prop} : fSl (.lst xs) lo hi P = P (.ow (.lst (cutD xs lo hi))) := rfl
theorem e_sl2 {xs : Str} {lo hi : Option Int} {P : R → Prop} : fSl (.str xs) lo hi P = (xs.length ≤ 1000000 ∧ P (.sh (.str (cutS xs lo hi)))) := rfl
theorem e_sl3 {xs : List D} {lo hi : Option Int} {P : R → Prop} : fSl (.tup xs) lo hi P = (¬ (HT.sIx xs.length 0 lo = 0 ∧ HT.sIx xs.length xs.length hi = xs.length) ∧ P (.sh (.tup (cutD xs lo hi)))) := rfl
theorem e_len1 {xs : List D} {P : R → Prop} : fLen (.lst xs) P = P (.sh (.int xs.length)) := rfl
theorem e_len2 {xs : List D} {P : R → Prop} : fLen (.tup xs) P = P (.sh (.int xs.length)) := rfl
theorem e_len3 {xs : Str} {P : R → Prop} : fLen (.str xs) P = (xs.length ≤ 1000000 ∧ P (.sh (.int xs.length))) := rfl
theorem e_int1 {i : Int} {P : R → Prop} : fInt (.int i) P = P (.sh (.int i)) := rfl
theorem e_int2 {c : Bool} {P : R → Prop} : fInt (.bl c) P = P (.sh (.int (if c then 1 else 0))) := rfl
theorem e_list1 {xs : List D} {P : R → Prop} : fList2 (.lst xs) P = P (.ow (.lst xs)) := rfl
theorem e_list2 {xs : List D} {P : R → Prop} : fList2 (.tup xs) P = P (.ow (.lst xs)) := rfl
theorem e_list3 {xs : Str} {P : R → Prop} : fList2 (.str xs) P = (xs.length ≤ 1000000 ∧ P (.ow (.lst (signs xs)))) := rfl
theorem e_tru1 {P : Bool → Prop} : truD .non P = P false := rfl
theorem e_tru2 {c : Bool} {P : Bool → Prop} : truD (.bl c) P = P c := rfl
theorem e_tru3 {c : Int} {P : Bool → Prop} : truD (.int c) P = P (c != 0) := rfl
theorem e_tru4 {c : Str} {P : Bool → Prop} : truD (.str c) P = (c.length ≤ 1000000 ∧ P ((c.length : Int) != 0)) := rfl
theorem e_tru5 {c : List D} {P : Bool → Prop} : truD (.lst c) P = P (!c.isEmpty) := rfl
theorem e_tru6 {c : List D} {P : Bool → Prop} : truD (.tup c) P = P (!c.isEmpty) := rfl
theorem e_ix_lst0 {a0 : D} {l : List D} {P : R → Prop} : fIx (.lst (a0 :: l)) (.int 0) P = P (.sh a0) := rfl
theorem e_ix_tup0 {a0 : D} {l : List D} {P : R → Prop} : fIx (.tup (a0 :: l)) (.int 0) P = P (.sh a0) := rfl
theorem e_ix_lst1 {a0 a1 : D} {l : List D} {P : R → Prop} : fIx (.lst (a0 :: a1 :: l)) (.int 1) P = P (.sh a1) := rfl
theorem e_ix_tup1 {a0 a1 : D} {l : List D} {P : R → Prop} : fIx (.tup (a0 :: a1 :: l)) (.int 1) P = P (.sh a1) := rfl
theorem e_ix_lst2 {a0 a1 a2 : D} {l : List D} {P : R → Prop} : fIx (.lst (a0 :: a1 :: a2 :: l)) (.int 2) P = P (.sh a2) := rfl
theorem e_ix_tup2 {a0 a1 a2 : D} {l : List D} {P : R → Prop} : fIx (.tup (a0 :: a1 :: a2 :: l)) (.int 2) P = P (.sh a2) := rfl
theorem e_ix_lst3 {a0 a1 a2 a3 : D} {l : List D} {P : R → Prop} : fIx (.lst (a0 :: a1 :: a2 :: a3 :: l)) (.int 3) P = P (.sh a3) := rfl
theorem e_ix_tup3 {a0 a1 a2 a3 : D} {l : List D} {P : R → Prop} : fIx (.tup (a0 :: a1 :: a2 :: a3 :: l)) (.int 3) P = P (.sh a3) := rfl
theorem e_ix_lst4 {a0 a1 a2 a3 a4 : D} {l : List D} {P : R → Prop} : fIx (.lst (a0 :: a1 :: a2 :: a3 :: a4 :: l)) (.int 4) P = P (.sh a4) := rfl
theorem e_ix_tup4 {a0 a1 a2 a3 a4 : D} {l : List D} {P : R → Prop} : fIx (.tup (a0 :: a1 :: a2 :: a3 :: a4 :: l)) (.int 4) P = P (.sh a4) := rfl
theorem e_ix_lst5 {a0 a1 a2 a3 a4 a5 : D} {l : List D} {P : R → Prop} : fIx (.lst (a0 :: a1 :: a2 :: a3 :: a4 :: a5 :: l)) (.int 5) P = P (.sh a5) := rfl
theorem e_ix_tup5 {a0 a1 a2 a3 a4 a5 : D} {l : List D} {P : R → Prop} : fIx (.tup (a0 :: a1 :: a2 :: a3 :: a4 :: a5 :: l)) (.int 5) P = P (.sh a5) := rfl
theorem e_ix_lst6 {a0 a1 a2 a3 a4 a5 a6 : D} {l : List D} {P : R → Prop} : fIx (.lst (a0 :: a1 :: a2 :: a3 :: a4 :: a5 :: a6 :: l)) (.int 6) P = P (.sh a6) := rfl
theorem e_ix_tup6 {a0 a1 a2 a3 a4 a5 a6 : D} {l : List D} {P : R → Prop} : fIx (.tup (a0 :: a1 :: a2 :: a3 :: a4 :: a5 :: a6 :: l)) (.int 6) P = P (.sh a6) := rfl
theorem e_ix_lst7 {a0 a1 a2 a3 a4 a5 a6 a7 : D} {l : List D} {P : R → Prop} : fIx (.lst (a0 :: a1 :: a2 :: a3 :: a4 :: a5 :: a6 :: a7 :: l)) (.int 7) P = P (.sh a7) := rfl
theorem e_ix_tup7 {a0 a1 a2 a3 a4 a5 a6 a7 : D} {l : List D} {P : R → Prop} : fIx (.tup (a0 :: a1 :: a2 :: a3 :: a4 :: a5 :: a6 :: a7 :: l)) (.int 7) P = P (.sh a7) := rfl
theorem e_gtp {gs : DGs} {ds : List D} {e : List Sl} {P : List Sl → Prop} : gTp gs (.tup ds) e P = gs ds e P := rfl
theorem e_gsc {g : DG} {gs : DGs} {d : D} {ds : List D} {e : List Sl} {P : List Sl → Prop} : gsCons g gs (d :: ds) e P = g d e fun e' => gs ds e' P := rfl
theorem e_gsn {ds : List D} {e : List Sl} {P : List Sl → Prop} : gsNil ds e P = (ds = [] ∧ P e) := rfl
theorem e_into1 {own : Bool} {P : Sl → Prop} {d : D} : R.into own P (.sh d) = (own = false ∧ P (.sh d)) := rfl
theorem e_into2 {P : Sl → Prop} {o : OD} : R.into true P (.ow o) = P (.own none o) := rfl
theorem e_into3 {P : Sl → Prop} {o : OD} : R.into false P (.ow o) = P (.sh o.d) := rfl
theorem e_ty0  : tyD (.non) = some .non := rfl
theorem e_ty1 {c : Bool} : tyD (.bl c) = some .bl := rfl
theorem e_ty2 {c : Int} : tyD (.int c) = some .int := rfl
theorem e_ty3 {c : Str} : tyD (.str c) = some .str := rfl
theorem e_ty4 {c : List D} : tyD (.lst c) = some .lst := rfl
theorem e_ty5 {c : List D} : tyD (.tup c) = some .tup := rfl
theorem e_ty6 {c : List (Key × D)} : tyD (.dk c) = some .dk := rfl
theorem e_tyis_non_non  : TyE.is .non .non = true := rfl
theorem e_tyis_non_bl  : TyE.is .non .bl = false := rfl
theorem e_tyis_non_int  : TyE.is .non .int = false := rfl
theorem e_tyis_non_str  : TyE.is .non .str = false := rfl
theorem e_tyis_non_lst  : TyE.is .non .lst = false := rfl
theorem e_tyis_non_tup  : TyE.is .non .tup = false := rfl
theorem e_tyis_non_dk  : TyE.is .non .dk = false := rfl
theorem e_tyis_bl_non  : TyE.is .bl .non = false := rfl
theorem e_tyis_bl_bl  : TyE.is .bl .bl = true := rfl
theorem e_tyis_bl_int  : TyE.is .bl .int = true := rfl
theorem e_tyis_bl_str  : TyE.is .bl .str = false := rfl
theorem e_tyis_bl_lst  : TyE.is .bl .lst = false := rfl
theorem e_tyis_bl_tup  : TyE.is .bl .tup = false := rfl
theorem e_tyis_bl_dk  : TyE.is .bl .dk = false := rfl
theorem e_tyis_int_non  : TyE.is .int .non = false := rfl
theorem e_tyis_int_bl  : TyE.is .int .bl = false := rfl
theorem e_tyis_int_int  : TyE.is .int .int = true := rfl
theorem e_tyis_int_str  : TyE.is .int .str = false := rfl
theorem e_tyis_int_lst  : TyE.is .int .lst = false := rfl
theorem e_tyis_int_tup  : TyE.is .int .tup = false := rfl
theorem e_tyis_int_dk  : TyE.is .int .dk = false := rfl
theorem e_tyis_str_non  : TyE.is .str .non = false := rfl
theorem e_tyis_str_bl  : TyE.is .str .bl = false := rfl
theorem e_tyis_str_int  : TyE.is .str .int = false := rfl
theorem e_tyis_str_str  : TyE.is .str .str = true := rfl
theorem e_tyis_str_lst  : TyE.is .str .lst = false := rfl
theorem e_tyis_str_tup  : TyE.is .str .tup = false := rfl
theorem e_tyis_str_dk  : TyE.is .str .dk = false := rfl
theorem e_tyis_lst_non  : TyE.is .lst .non = false := rfl
theorem e_tyis_lst_bl  : TyE.is .lst .bl = false := rfl
theorem e_tyis_lst_int  : TyE.is .lst .int = false := rfl
theorem e_tyis_lst_str  : TyE.is .lst .str = false := rfl
theorem e_tyis_lst_lst  : TyE.is .lst .lst = true := rfl
theorem e_tyis_lst_tup  : TyE.is .lst .tup = false := rfl
theorem e_tyis_lst_dk  : TyE.is .lst .dk = false := rfl
theorem e_tyis_tup_non  : TyE.is .tup .non = false := rfl
theorem e_tyis_tup_bl  : TyE.is .tup .bl = false := rfl
theorem e_tyis_tup_int  : TyE.is .tup .int = false := rfl
theorem e_tyis_tup_str  : TyE.is .tup .str = false := rfl
theorem e_tyis_tup_lst  : TyE.is .tup .lst = false := rfl
theorem e_tyis_tup_tup  : TyE.is .tup .tup = true := rfl
theorem e_tyis_tup_dk  : TyE.is .tup .dk = false := rfl
theorem e_tyis_dk_non  : TyE.is .dk .non = false := rfl
theorem e_tyis_dk_bl  : TyE.is .dk .bl = false := rfl
theorem e_tyis_dk_int  : TyE.is .dk .int = false := rfl
theorem e_tyis_dk_str  : TyE.is .dk .str = false := rfl
theorem e_tyis_dk_lst  : TyE.is .dk .lst = false := rfl
theorem e_tyis_dk_tup  : TyE.is .dk .tup = false := rfl
theorem e_tyis_dk_dk  : TyE.is .dk .dk = true := rfl
theorem e_orF {α : Type} {P : α → Prop} {x : α} : orF P (some x) = P x := rfl
theorem e_itet {A B : Prop} : (if true = true then A else B) = A := rfl
theorem e_itef {A B : Prop} : (if false = true then A else B) = B := rfl
theorem e_dtt : decide (true = true) = true := rfl
theorem e_dff : decide (false = false) = true := rfl
theorem e_dtf : decide (true = false) = false := rfl
theorem e_dft : decide (false = true) = false := rfl
theorem e_nt : (!true) = false := rfl
theorem e_nf : (!false) = true := rfl
theorem e_off : (false || false) = false := rfl
theorem e_oft : (false || true) = true := rfl
theorem e_otf : (true || false) = true := rfl
theorem e_ott : (true || true) = true := rfl
theorem e_zip1 {P : List D → Prop} {xs ys : List D} : zipD P [.lst xs, .lst ys] = P (zips xs ys) := rfl
theorem e_zip2 {P : List D → Prop} {xs ys : List D} : zipD P [.tup xs, .tup ys] = P (zips xs ys) := rfl
theorem e_slv1 {i : Nat} {P : R → Prop} {d : D} : slV i P (.sh d) = P (.sh d) := rfl
theorem e_slv2 {i : Nat} {P : R → Prop} {q : Option Addr} {o : OD} : slV i P (.own q o) = P (.al i o) := rfl
end DL
namespace DL
open PySem L2 PyProof.Rows
/-! ### plain lemmas -/
theorem perm_pop {α : Type} : ∀ {l : List α} {n : Nat} {x : α}, l[n]? = some x → (x :: l.eraseIdx n).Perm l
  | [], n, x, h => by simp at h
  | a :: l, 0, x, h => by
    cases h
    exact List.Perm.refl _
  | a :: l, n + 1, x, h => by
    have q := perm_pop (l := l) (n := n) (x := x) (by simpa using h)
    rw [List.eraseIdx_cons_succ]
    exact (List.Perm.swap a x _).trans (q.cons a)
/-- texts by their codes -/
def S (l : List Nat) : Str := ⟨l.toArray⟩
theorem S_cps (l : List Nat) : (S l).cps.toList = l := rfl
theorem S_len (l : List Nat) : (S l).length = l.length := by simp [S, Str.length]
theorem S_of (s : Str) : s = S s.cps.toList := rfl
theorem S_app (l m : List Nat) : S l ++ S m = S (l ++ m) := by
  show Str.append (S l) (S m) = _
  unfold S
  simp [Str.append]
theorem S_inj {l m : List Nat} : S l = S m ↔ l = m := by
  constructor
  · intro h
    have := congrArg (fun s : Str => s.cps.toList) h
    exact this
  · intro h; rw [h]
/-- plain data of so much depth -/
def simN : Nat → D → Bool
  | n + 1, .lst xs => decide (xs.length ≤ 100000) && xs.all (simN n)
  | n + 1, .tup xs => decide (xs.length ≤ 100000) && xs.all (simN n)
  | _, d => flatD d
theorem simN_flat {n : Nat} {d : D} (h : flatD d = true) : simN n d = true := by
  cases n <;> cases d <;> first | exact h | cases h
theorem simN_lst {n : Nat} {xs : List D} (h : simN n (.lst xs) = true) : ∃ m, n = m + 1 ∧ xs.length ≤ 100000 ∧ ∀ x ∈ xs, simN m x = true := by
  cases n with
  | zero => cases h
  | succ n =>
    have h' : (decide (xs.length ≤ 100000) && xs.all (simN n)) = true := h
    rw [Bool.and_eq_true, decide_eq_true_eq, List.all_eq_true] at h'
    exact ⟨n, rfl, h'.1, h'.2⟩
theorem simN_tup {n : Nat} {xs : List D} (h : simN n (.tup xs) = true) : ∃ m, n = m + 1 ∧ xs.length ≤ 100000 ∧ ∀ x ∈ xs, simN m x = true := by
  cases n with
  | zero => cases h
  | succ n =>
    have h' : (decide (xs.length ≤ 100000) && xs.all (simN n)) = true := h
    rw [Bool.and_eq_true, decide_eq_true_eq, List.all_eq_true] at h'
    exact ⟨n, rfl, h'.1, h'.2⟩
theorem simN_mk {n : Nat} {xs : List D} (h : xs.length ≤ 100000) (k : ∀ x ∈ xs, simN n x = true) : simN (n + 1) (.lst xs) = true := by
  show (decide (xs.length ≤ 100000) && xs.all (simN n)) = true
  rw [Bool.and_eq_true, decide_eq_true_eq, List.all_eq_true]
  exact ⟨h, k⟩
theorem simN_mkT {n : Nat} {xs : List D} (h : xs.length ≤ 100000) (k : ∀ x ∈ xs, simN n x = true) : simN (n + 1) (.tup xs) = true := by
  show (decide (xs.length ≤ 100000) && xs.all (simN n)) = true
  rw [Bool.and_eq_true, decide_eq_true_eq, List.all_eq_true]
  exact ⟨h, k⟩
theorem zips_self {xs : List D} {i : Nat} {z : D} (h : (zips xs xs)[i]? = some z) : ∃ x, x ∈ xs ∧ z = .tup [x, x] := by
  obtain ⟨x, y, h1, h2, h3⟩ := zips_get h
  rw [h1] at h2
  cases h2
  exact ⟨x, List.mem_of_getElem? h1, h3⟩
/-- a def that is asked nothing -/
theorem known_none {K : PySem.W.Frag} {P : Program} {w : World} {mg : Str → Option Value} {base : Heap} {x : Str} {st : Stmt} {ps : List Str} (Hr : Here K mg x st ps) : Known P w K mg base x 0 ps (spN K fun _ _ => False) := by
  obtain ⟨f, fd, F, hm, hbi⟩ := Hr.ex
  exact ⟨f, fd, ⟨fun vs H Q E ⟨_, _, _, _, _, h, _⟩ => h.elim, fun A outer s H args us vs Q E _ _ _ _ ⟨_, _, _, _, _, h, _⟩ => h.elim⟩, hm, F.kp, hbi⟩
end DL
namespace DL
open PySem L2 PyProof.Rows
/-! ### texts as lists of codes -/
def chs (l : List Nat) : List D := l.map fun c => .str (sign c)
theorem sign_S (c : Nat) : sign c = S [c] := rfl
theorem chs_len (l : List Nat) : (chs l).length = l.length := by simp [chs]
theorem chs_app (l m : List Nat) : chs l ++ chs m = chs (l ++ m) := by simp [chs]
theorem chs_rev (l : List Nat) : (chs l).reverse = chs l.reverse := by simp [chs]
theorem signs_S (l : List Nat) : signs (S l) = chs l := rfl
theorem chs_get {l : List Nat} {i : Nat} {x : D} (h : (chs l)[i]? = some x) : ∃ c, l[i]? = some c ∧ x = .str (S [c]) := by
  unfold chs at h
  rw [List.getElem?_map] at h
  cases e : l[i]? with
  | none => rw [e] at h; cases h
  | some c => rw [e] at h; exact ⟨c, rfl, (Option.some.inj h).symm⟩
theorem chs_mem {l : List Nat} {x : D} (h : x ∈ chs l) : ∃ c ∈ l, x = .str (S [c]) := by
  obtain ⟨c, hc, rfl⟩ := List.mem_map.mp h
  exact ⟨c, hc, rfl⟩
theorem chs_of : ∀ {xs : List D}, (∀ x ∈ xs, ∃ c, x = .str (S [c])) → ∃ l, xs = chs l
  | [], _ => ⟨[], rfl⟩
  | x :: xs, h => by
    obtain ⟨c, rfl⟩ := h x List.mem_cons_self
    obtain ⟨l, rfl⟩ := chs_of (xs := xs) fun y hy => h y (List.mem_cons_of_mem _ hy)
    exact ⟨c :: l, rfl⟩
theorem cutS_S (l : List Nat) (lo hi : Option Int) : cutS (S l) lo hi = S ((l.drop (HT.sIx l.length 0 lo)).take (HT.sIx l.length l.length hi - HT.sIx l.length 0 lo)) := by
  unfold cutS
  rw [S_len]
  rfl
theorem cutS_to (l : List Nat) (k : Nat) : cutS (S l) none (some (k : Int)) = S (l.take k) := by
  rw [cutS_S, HT.sIx_none, HT.sIx_nat, List.drop_zero, Nat.sub_zero]
  congr 1
  rw [Nat.min_comm, List.take_eq_take_iff]
  omega
theorem cutS_to1 (l : List Nat) : cutS (S l) none (some 1) = S (l.take 1) := cutS_to l 1
theorem cutS_from (l : List Nat) (k : Nat) : cutS (S l) (some (k : Int)) none = S (l.drop k) := by
  rw [cutS_S, HT.sIx_none, HT.sIx_nat]
  congr 1
  rw [List.take_of_length_le (by simp)]
  by_cases h : k ≤ l.length
  · rw [Nat.min_eq_left h]
  · rw [Nat.min_eq_right (by omega), List.drop_eq_nil_of_le (by omega), List.drop_eq_nil_of_le (by omega)]
theorem cutS_from1 (l : List Nat) : cutS (S l) (some 1) none = S (l.drop 1) := cutS_from l 1
theorem cutD_to (l : List D) (k : Nat) : cutD l none (some (k : Int)) = l.take k := by
  unfold cutD
  rw [HT.sIx_none, HT.sIx_nat, List.drop_zero, Nat.sub_zero, Nat.min_comm, List.take_eq_take_iff]
  omega
theorem sumlen_S (ls : List (List Nat)) : ((ls.map S).map (·.length)).sum = ls.flatten.length := by
  induction ls with
  | nil => rfl
  | cons l ls ih => rw [List.map_cons, List.map_cons, List.sum_cons, ih, S_len, List.flatten_cons, List.length_append]
theorem S_nil_app (s : Str) : s ++ S [] = s := by
  rw [S_of s, S_app, List.append_nil]
theorem join_S (ls : List (List Nat)) : Txt.join (S []) (ls.map S) = S ls.flatten := by
  rw [TL.join_eq]
  induction ls with
  | nil => rfl
  | cons l ls ih =>
    cases ls with
    | nil =>
      show S l = _
      simp
    | cons m r =>
      show S l ++ S [] ++ Str.join (S []) ((m :: r).map S) = _
      rw [ih, S_nil_app, S_app]
      rfl
theorem map_str_S (ls : List (List Nat)) : (ls.map S).map D.str = ls.map fun l => D.str (S l) := by rw [List.map_map]; rfl
theorem fJoin_S {ls : List (List Nat)} {P : R → Prop} (h : ls.flatten.length ≤ 1000000) (p : P (.sh (.str (S ls.flatten)))) : fJoin (.str (S [])) (.lst (ls.map fun l => D.str (S l))) P := by
  refine ⟨S [], ls.map S, rfl, .inl (by rw [map_str_S]), ?_, ?_⟩
  · rw [sumlen_S, S_len]
    simpa using h
  · rw [join_S]
    exact p
theorem flatten_one : ∀ l : List Nat, (l.map fun c => [c]).flatten = l
  | [] => rfl
  | c :: l => by rw [List.map_cons, List.flatten_cons, flatten_one l]; rfl
theorem fJoin_chs {l : List Nat} {P : R → Prop} (h : l.length ≤ 1000000) (p : P (.sh (.str (S l)))) : fJoin (.str (S [])) (.lst (chs l)) P := by
  have e := fJoin_S (ls := l.map fun c => [c]) (P := P) (by rw [flatten_one]; exact h) (by rw [flatten_one]; exact p)
  rw [List.map_map] at e
  exact e
theorem nums_get' {n i : Nat} {x : D} (h : (nums 0 n)[i]? = some x) : i < n ∧ x = .int (i : Int) := by
  obtain ⟨h1, h2⟩ := nums_get h
  exact ⟨h1, by simpa using h2⟩
theorem decS (l m : List Nat) [i : Decidable (S l = S m)] [j : Decidable (l = m)] : @decide (S l = S m) i = @decide (l = m) j := by
  by_cases h : l = m
  · rw [decide_eq_true h, decide_eq_true (S_inj.mpr h)]
  · rw [decide_eq_false h, decide_eq_false (fun e => h (S_inj.mp e))]
/-! ### lists that may be compared -/
def okE (d : D) : Bool := match d with
  | .str s => s.cps.all (· < 0x110000)
  | d => flatD d
theorem toPyL_ok : ∀ {xs : List D}, (∀ x ∈ xs, okE x = true) → pureL xs = true ∧ PyData.canLayAll0 (toPyL xs) = true ∧ PyData.depthAll (toPyL xs) = 0
  | [], _ => ⟨rfl, rfl, rfl⟩
  | x :: xs, h => by
    obtain ⟨h1, h2, h3⟩ := toPyL_ok (xs := xs) fun y hy => h y (List.mem_cons_of_mem _ hy)
    have hx := h x List.mem_cons_self
    have e : pure? x = true ∧ PyData.canLay0 (toPy x) = true ∧ PyData.depth (toPy x) = 0 := by
      cases x <;> first | exact ⟨rfl, rfl, rfl⟩ | exact ⟨rfl, hx, rfl⟩ | cases hx
    refine ⟨?_, ?_, ?_⟩
    · show (pure? x && pureL xs) = true
      rw [e.1, h1]; rfl
    · show (PyData.canLay0 (toPy x) && PyData.canLayAll0 (toPyL xs)) = true
      rw [e.2.1, h2]; rfl
    · show max (PyData.depth (toPy x)) (PyData.depthAll (toPyL xs)) = 0
      rw [e.2.2, h3]; rfl
theorem okPy_lst {xs : List D} (h : ∀ x ∈ xs, okE x = true) : okPy (.lst xs) := by
  obtain ⟨h1, h2, h3⟩ := toPyL_ok h
  refine ⟨h1, ?_⟩
  show (PyData.canLayAll0 (toPyL xs) && decide (PyData.depthAll (toPyL xs) + 1 ≤ 64)) = true
  rw [h2, h3]; rfl
theorem okPy_tup {xs : List D} (h : ∀ x ∈ xs, okE x = true) : okPy (.tup xs) := by
  obtain ⟨h1, h2, h3⟩ := toPyL_ok h
  refine ⟨h1, ?_⟩
  show (PyData.canLayAll0 (toPyL xs) && decide (PyData.depthAll (toPyL xs) + 1 ≤ 64)) = true
  rw [h2, h3]; rfl
theorem eqv_nil (xs : List D) : PyData.eqv (toPy (.lst xs)) (toPy (.lst [])) = xs.isEmpty := by cases xs <;> rfl
theorem ne_nil {xs : List D} {P : R → Prop} (h : ∀ x ∈ xs, okE x = true) (p : P (.sh (.bl (!xs.isEmpty)))) : fNe (.lst xs) (.lst []) P := by
  refine ⟨okPy_lst h, okPy_lst (by simp), ?_⟩
  rw [eqv_nil]
  exact p
theorem eq_nil {xs : List D} {P : R → Prop} (h : ∀ x ∈ xs, okE x = true) (p : P (.sh (.bl xs.isEmpty))) : fEq (.lst xs) (.lst []) P := by
  refine ⟨okPy_lst h, okPy_lst (by simp), ?_⟩
  rw [eqv_nil]
  exact p
theorem ix_last {xs : List D} {y : D} {P : R → Prop} (p : P (.sh y)) : fIx (.lst (xs ++ [y])) (.int (-1)) P := by
  show orF (fun x => P (.sh x)) (if 0 < (xs ++ [y]).length then (xs ++ [y])[(xs ++ [y]).length - (0 + 1)]? else none)
  have e : (if 0 < (xs ++ [y]).length then (xs ++ [y])[(xs ++ [y]).length - (0 + 1)]? else none) = some y := by simp
  rw [e]
  exact p
theorem isEmpty_snoc {α : Type} (xs : List α) (y : α) : (xs ++ [y]).isEmpty = false := by cases xs <;> rfl
theorem chs_snoc (l : List Nat) (c : Nat) : chs (l ++ [c]) = chs l ++ [D.str (S [c])] := by simp [chs]; rfl
theorem chs_ok {l : List Nat} (h : ∀ c ∈ l, c < 1114112) : ∀ x ∈ chs l, okE x = true := by
  intro x hx
  obtain ⟨c, hc, rfl⟩ := chs_mem hx
  show (S [c]).cps.all (· < 0x110000) = true
  simp [S, h c hc]
theorem ints_ok {l : List Int} : ∀ x ∈ l.map D.int, okE x = true := by
  intro x hx
  obtain ⟨c, hc, rfl⟩ := List.mem_map.mp hx
  rfl
end DL
namespace DL
open PySem L2 PyProof.Rows
/-! ### defs with *args -/
section
variable {X : Cx} {b : Bg} {K : PySem.W.Frag}
/-- a def that stands at its name, told by its positional arguments -/
structure KnownR (P : Program) (w : World) (K : PySem.W.Frag) (mg : Str → Option Value) (base : Heap) (x : Str) (k : Nat) (sp : Sp) : Prop where
  ex : ∃ f, FnR P w K mg base CX0 k f sp ∧ mg x = some (.ref f) ∧ PySem.W.keepIn K (.ref f) = true
theorem KnownR.mono {P : Program} {w : World} {mg : Str → Option Value} {base : Heap} {x : Str} {k k' : Nat} {sp : Sp} (h : KnownR P w K mg base x k sp) (hk : k ≤ k') : KnownR P w K mg base x k' sp := by
  obtain ⟨f, F, h1, h2⟩ := h
  exact ⟨f, F.mono hk, h1, h2⟩
section
variable {CX : CXT} {k : Nat} {f : Addr} {sp : Sp} {E : XK} {x : Str} {p pos : Pos}
/-- a call told by its positional arguments, one or more -/
theorem pe_callR {a0 : Expr} {as : List Expr} {ta : TA} (Fn : FnR X.prog X.w X.K X.mg X.base CX k f sp) (room : Room k X.A) (keep : PySem.W.keepIn X.K (.ref f) = true) (gl : Gl X x) (at_ : X.mg x = some (.ref f)) (pass : Passes CX X E) (pa : PA X (a0 :: as) ta) (nd : (x == ("__debug__" : Str)) = false := by decide)
    (st : starEach (a0 :: as) X.env = (false, eval a0 X.env) :: starEach as X.env := by rfl) (pl : (backTo pos (starEach as X.env)).any (·.1) = false := by rfl) : PE X (.Call (.Name x p) (a0 :: as) [] pos) (fun σ H Q => ta σ H fun vs H1 => sp vs H1 Q E) := by
  constructor
  intro pins s σ H Q inv hyp
  have args := pa.run pos pins s σ H _ inv hyp
  refine wpAny_Call_Name_kw (ld_glob inv gl at_ (PySem.W.callWith_K (h₀ := X.base) inv.ok.mod.kin keep (thn args ?_) st pl) nd)
  rintro us s1 ⟨vs, H1, inv1, rv, q1⟩
  exact ⟨inv1.kIn, wpAny_call (run_fnR Fn room pass inv1 rv q1)⟩
/-- the same with no argument -/
theorem pe_callR0 (Fn : FnR X.prog X.w X.K X.mg X.base CX k f sp) (room : Room k X.A) (keep : PySem.W.keepIn X.K (.ref f) = true) (gl : Gl X x) (at_ : X.mg x = some (.ref f)) (pass : Passes CX X E) (nd : (x == ("__debug__" : Str)) = false := by decide) :
    PE X (.Call (.Name x p) [] [] pos) (fun σ H Q => sp [] H Q E) := by
  constructor
  intro pins s σ H Q inv hyp
  exact wpAny_Call_Name_kw (ld_glob inv gl at_ (PySem.W.callWith_K0 inv.kIn keep (wpAny_call (run_fnR Fn room pass inv .nil hyp))) nd)
end
theorem d_callR {x : Str} {k : Nat} {f : FS} {a : Expr} {es : List Expr} {ua : DA} {p pos : Pos} (F : KnownR X.prog X.w X.K X.mg X.base x k (spN X.K f)) (hr : Room k X.A) (ha : PDA X b (a :: es) ua) (hg : Gl X x := by rfl)
    (hdb : (x == ("__debug__" : Str)) = false := by decide) (he : starEach (a :: es) X.env = (false, eval a X.env) :: starEach es X.env := by rfl) (hpl : (backTo pos (starEach es X.env)).any (·.1) = false := by rfl) : PD X b (.Call (.Name x p) (a :: es) [] pos) (uCall f ua) := by
  obtain ⟨fa, F, hm, hk⟩ := F
  obtain ⟨t, pa, l⟩ := ha
  refine ⟨_, pe_callR F hr hk hg hm (E := E0) pass0 pa hdb he hpl, ?_⟩
  intro L G0 H0 G H σ e P Q g hu k
  refine l L G0 H0 G H σ e _ _ g hu fun vs ds G1 H1 s1 hds q => ?_
  have g1 := g.step s1
  refine ⟨G1, ds, P, g1.ex, hds, q, fun v r G' H' s hr hp => ?_⟩
  have s' : Stp b [] G1 H1 G' H' := s.some
  refine k v r G' H' (s1.trans s') ?_ hp
  cases r with
  | sh d => exact hr
  | ow o =>
    obtain ⟨a, ho, h1, _, h3, h4⟩ := hr
    have hb : b.a ≠ some a := g1.nb h3
    exact ⟨a, ho, h1, hb, s1.back a hb h3, h4⟩
  | al i o => obtain ⟨⟨_, h⟩, _⟩ := hr; simp at h
theorem d_callR0 {x : Str} {k : Nat} {f : FS} {p pos : Pos} (F : KnownR X.prog X.w X.K X.mg X.base x k (spN X.K f)) (hr : Room k X.A) (hg : Gl X x := by rfl) (hdb : (x == ("__debug__" : Str)) = false := by decide) : PD X b (.Call (.Name x p) [] [] pos) (uCall f uNil) := by
  obtain ⟨fa, F, hm, hk⟩ := F
  refine ⟨_, pe_callR0 F hr hk hg hm (E := E0) pass0 hdb, ?_⟩
  intro L G0 H0 G H σ e P Q g hu k
  refine ⟨G, [], P, g.ex, rfl, hu, fun v r G' H' s hr hp => ?_⟩
  have s' : Stp b [] G H G' H' := s.some
  refine k v r G' H' s' ?_ hp
  cases r with
  | sh d => exact hr
  | ow o =>
    obtain ⟨a, ho, h1, _, h3, h4⟩ := hr
    exact ⟨a, ho, h1, g.nb h3, h3, h4⟩
  | al i o => obtain ⟨⟨_, h⟩, _⟩ := hr; simp at h
/-- what a def with *args is asked -/
def fStar (n : Nat) (f : FS) : FS := fun ds P => ∃ d1 d2, ds = d1 ++ d2 ∧ d1.length = n ∧ d2.length ≤ 1000000 ∧ f (d1 ++ [.tup d2]) P
theorem repL_split {G : Hp} : ∀ {d1 d2 : List D} {vs : List V}, RepL K G (d1 ++ d2) vs → ∃ v1 v2, vs = v1 ++ v2 ∧ RepL K G d1 v1 ∧ RepL K G d2 v2
  | [], d2, vs, h => ⟨[], vs, rfl, rfl, h⟩
  | d :: d1, d2, vs, h => by
    obtain ⟨v, r, rfl, hv, hr⟩ := h
    obtain ⟨v1, v2, rfl, h1, h2⟩ := repL_split (d1 := d1) hr
    exact ⟨v :: v1, v2, rfl, ⟨v, v1, rfl, hv, h1⟩, h2⟩
section
variable {P : Program} {w : World} {mg : Str → Option Value} {base : Heap}
theorem fn_starD {x qual pv : Str} {st : Stmt} {f : Addr} {fd : FuncData} {N ps : List Str} {k : Nat} {fs : FS} {u : DS} (F : Fun K x qual st f fd) (hm : mg x = some (.ref f)) (S : FnScope N (ps ++ [pv]) (defScope st))
    (hbi : ∀ (kV doc pm : Value) (an : Option Addr) (cdv ct : Value) (us rest : List Value), us.length = ps.length → bindArgs (PySem.W.fnOf x qual (defArgs st) (defBody st) (defScope st) .none kV doc pm an cdv ct) ⟨us ++ rest, []⟩ = (newTuple rest >>= fun t => pure (ps.zip us ++ [(pv, t)])))
    (hb : ∀ (cdv : Value) (A : Around) (outer : List Env) (s : Shared) (H : Hp) (E : XK), Room k (A.deeper (envOfC qual (defScope st) s.heap.objs.size f cdv)) → PDSs (cxOf CX0 P w K mg base N qual (defScope st) f cdv A outer s H E).nox (bN none) (defBody st) u)
    (hu : ∀ ds P, fs ds P → u ⟨fun _ => P (.sh .non), fun r _ => P r, fun _ => False, fun _ => False⟩ (env0 N ds)) : KnownR P w K mg base x (k + 1) (spN K (fStar ps.length fs)) := by
  obtain ⟨oc, od, kV, doc, pm, an, cdv, ct, osl, rfl, lk, hcd⟩ := F.ex
  refine ⟨f, FnR.imp (StX.fn_star (sp := spN K fs) lk hcd S StX.cxUp_none (hbi kV doc pm an cdv ct) fun A outer s H vs Q E hr hsp => ?_) fun vs H Q E h => ?_, hm, F.kp⟩
  · obtain ⟨G, ds, P', ex, hds, hf, kk⟩ := hsp
    obtain ⟨t, p, l⟩ := hb cdv A outer s H E hr
    refine ⟨t, p.nox, l [] G H G H _ _ ⟨fun _ => P' (.sh .non), fun r _ => P' r, fun _ => False, fun _ => False⟩ _ (good0 ex hds) ⟨fun G' H' σ e g h => ?_, fun G' H' σ e v r g hr h => ?_, fun G' H' σ e g h => h.elim, fun G' H' σ e g h => h.elim⟩ (hu ds P' hf)⟩
    · exact kk .non (.sh .non) G' H' g.stp rfl h
    · exact kk v r G' H' g.stp hr h
  · obtain ⟨G, ds, P', ex, hds, ⟨d1, d2, rfl, h1, h2, hf⟩, kk⟩ := h
    obtain ⟨v1, v2, rfl, r1, r2⟩ := repL_split hds
    refine ⟨v1, v2, rfl, by rw [r1.length]; exact h1, by rw [r2.length]; exact le_line h2, fun p np => ?_⟩
    have sb := sub_upd (o := .tup v2) (ex.none np)
    refine ⟨_, d1 ++ [.tup d2], P', (Stp.laid (b := none) ex np).ex, (r1.mono sb).append (show RepL K _ [.tup d2] [.ref p] from ⟨_, _, rfl, (show Rep K _ (.tup d2) (.ref p) from ⟨p, v2, rfl, .inl upd_same, r2.mono sb⟩), rfl⟩), hf, fun v r G' H' s hr hp => kk v r G' H' ((Stp.laid ex np).trans s) (hr.back fun a hb z => (Stp.laid (b := none) ex np).back a hb z) hp⟩
end
end
end DL
namespace DL
open PySem L2 PyProof.Rows
section
variable {X : Cx} {b : Bg} {K : PySem.W.Frag}
/-! ### z[::-1] of a text -/
def revS (z : Str) : Str := ⟨z.cps.toList.reverse.toArray⟩
def tRevS (te : TE) : TE := fun σ H Q => te σ H fun x H1 => ∃ z : Str, x = .str z ∧ z.length ≤ sizeLine ∧ Q (.str (revS z)) H1
theorem rev_range {l : List Nat} : ((List.range l.length).map fun k => l.toArray.getD (l.length - 1 - k) 0) = l.reverse := by
  apply List.ext_getElem
  · simp
  · intro i h1 h2
    simp at h1
    simp [Array.getD, h1]
    exact dif_pos (by omega)
theorem sliceBy_rev (z : Str) (u : Tok) : Txt.sliceBy z none none (-1, u) = revS z := by
  have h := step_rev_list z u
  have e : (Txt.sliceBy z none none (-1, u)).cps.toList = z.cps.toList.reverse := by
    rw [h]
    exact rev_range (l := z.cps.toList)
  unfold revS
  generalize Txt.sliceBy z none none (-1, u) = y at e
  obtain ⟨⟨l⟩⟩ := y
  simp at e
  rw [e]
/-- the made slice object's parts: left out, left out, -1 -/
theorem made_rev {z : Str} {t w2 : Tok} {pins : List (Addr × Obj)} {σ : L2.St} {H : Hp} {Q : VK} {s : Shared} {b : Addr} (sl : s.heap.IsSlice b none none (some (-1, w2))) (inv : Inv X pins σ H s) (hz : z.length ≤ sizeLine) (q : Q (.str (revS z)) H) :
    wpAny (model X.prog X.w) X.A (getItem (.str z t) (.ref b)) (EP X pins σ Q) X.xe s := by
  refine wpAny_getItem_str_slice sl rfl ?_
  have hl : (revS z).length ≤ sizeLine := Nat.le_trans (Nat.le_of_eq (by simp [revS, Str.length])) hz
  rw [← sliceBy_rev z w2] at q hl
  unfold Txt.sliceBy at q hl
  unfold sliceMade
  rw [if_neg (by simp)] at q hl ⊢
  exact ⟨hl, .str _, H, inv.tok _, ⟨_, rfl⟩, q⟩
theorem part_none {v : Value} (h : IsPart v none) : v = .none := by
  obtain ⟨l, rfl, e⟩ := IsPart.raw h
  cases l with
  | none => rfl
  | some _ => cases e
theorem part_some {v : Value} {i : Int} (h : IsPart v (some i)) : ∃ t, v = .int i t := by
  obtain ⟨l, rfl, e⟩ := IsPart.raw h
  cases l with
  | none => cases e
  | some p =>
    obtain ⟨j, t⟩ := p
    have : j = i := by simpa using e
    exact ⟨t, by rw [← this]; rfl⟩
theorem pe_revS {src : Expr} {ts : TE} {k : Nat} {p1 p2 p3 pos : Pos} (he : PE X src ts) : PE X (.Subscript src (.Slice none none (some (.UnaryOp .USub (.Constant (.int 1) k p1) p2)) p3) pos) (tRevS ts) := by
  have minus : PO X (some (.UnaryOp .USub (.Constant (.int 1) k p1) p2)) _ := po_some (pe_un un_neg pe_int)
  constructor
  intro pins s σ H Q inv hyp
  refine Subscript_ (thn (he.run pins s σ H _ inv hyp) ?_)
  rintro v s1 ⟨x, H1, i1, rx, z, rfl, hz, q⟩
  obtain ⟨t, rfl⟩ := rx
  have lo := po_none.run pins s1 σ H1 (fun o G => o = none ∧ G = H1) i1 ⟨rfl, rfl⟩
  refine wpAny_Slice (thn lo ?_)
  rintro vl s2 ⟨_, _, i2, pl, rfl, rfl⟩
  have hi := po_none.run pins s2 σ _ (fun o G => o = none ∧ G = _) i2 ⟨rfl, rfl⟩
  refine thn hi ?_
  rintro vu s3 ⟨_, _, i3, pu, rfl, rfl⟩
  have by1 := minus.run pins s3 σ _ (fun o G => o = some (-1) ∧ G = _) i3 ⟨1, rfl, -1, rfl, rfl, rfl⟩
  refine thn by1 ?_
  rintro vs s4 ⟨_, _, i4, ps, rfl, rfl⟩
  obtain rfl := part_none pl
  obtain rfl := part_none pu
  obtain ⟨w2, rfl⟩ := part_some ps
  have i5 := i4.kept (h' := s4.heap.push { cls := .type "slice", data := .fields #[.none, .none, .int (-1) w2] }) (t' := s4.toks) fun _ _ z => Heap.get?_push_of_some _ z
  exact tail_any (ops := [.ref s4.heap.objs.size, .str z t]) (typeIs_str _ _ _) PySem.F.slot_str_getitem.lookup (made_rev (w2 := w2) ⟨_, Heap.get?_push_size _ rfl, rfl, rfl⟩ i5 hz q) (by with_unfolding_all rfl)
theorem revS_S (l : List Nat) : revS (S l) = S l.reverse := rfl
def uRevS (u : DE) : DE := fun e P => u e fun r => ∃ z : Str, r.look = .str z ∧ z.length ≤ 1000000 ∧ P (.sh (.str (revS z)))
theorem d_revS {a : Expr} {u : DE} {k : Nat} {p1 p2 p3 pos : Pos} (h : PD X b a u) : PD X b (.Subscript a (.Slice none none (some (.UnaryOp .USub (.Constant (.int 1) k p1) p2)) p3) pos) (uRevS u) := by
  obtain ⟨t, p, l⟩ := h
  refine ⟨_, pe_revS p, ?_⟩
  intro L G0 H0 G H σ e P Q g hu kk
  refine l L G0 H0 G H σ e _ _ g hu fun v r G1 H1 s1 hr q => ?_
  have g1 := g.step s1
  obtain ⟨z, hx, hz, hp⟩ := q
  have tp := hr.top g1
  rw [hx] at tp
  cases tp
  exact ⟨_, rfl, le_line hz, kk _ (.sh (.str (revS z))) G1 H1 s1 rfl hp⟩
/-- a row of targets from a list -/
def gTpL (gs : DGs) : DG := fun d e P => match d with
  | .lst ds => gs ds e P
  | _ => False
theorem dg_lst {es : List Expr} {k n : Nat} {js : List Nat} {ugs : DGs} {pos : Pos} (h : PDGs X b es js ugs) (hl : ∀ ds e P, ugs ds e P → ds.length = n) (hc : X.calm = true := by rfl) (hn : (assignEach es X.env).length = n := by rfl) (hst : (assignEach es X.env).findIdx? (·.1) = none := by rfl) :
    PDG X b (.Tuple es k pos) js (gTpL ugs) := by
  obtain ⟨t, p, l⟩ := h
  refine ⟨_, pg_lst hc p hn hst, ?_⟩
  intro L G0 H0 G H σ e d v P Q g hd hu kk
  unfold gTpL at hu
  split at hu
  · rename_i ds
    obtain ⟨a, vs, rfl, ha, hr⟩ := hd
    exact ⟨a, vs, rfl, SqL.of (ex_lst g.ex ha), by rw [hr.length]; exact hl _ _ _ hu, l L G0 H0 G H σ e ds vs P Q g hr hu kk⟩
  · exact hu.elim
theorem gx_lst {gs : DGs} (h : GXs gs) : GX (gTpL gs) := fun d e P q => by
  cases d with
  | lst ds => exact h ds e P q
  | _ => exact q.elim
theorem e_gtpl {gs : DGs} {ds : List D} {e : List Sl} {P : List Sl → Prop} : gTpL gs (.lst ds) e P = gs ds e P := rfl
theorem e_revS {u : DE} {e : List Sl} {P : R → Prop} : uRevS u e P = u e fun r => ∃ z : Str, r.look = .str z ∧ z.length ≤ 1000000 ∧ P (.sh (.str (revS z))) := rfl
/-- a def of the text stands at its name, its parameters unsaid -/
structure HereS (K : PySem.W.Frag) (mg : Str → Option Value) (x : Str) (st : Stmt) : Prop where
  ex : ∃ f fd, Fun K x x st f fd ∧ mg x = some (.ref f)
theorem hereS_mk {h : Heap} {x : Str} {st : Stmt} {mg : Str → Option Value} {f : Addr} {oc : Value} {od an : Option Addr} {osl : Array (Option Value)} {kV doc pm cdv ct : Value} (X : K.In h) (G : h.Ns mainGlobals mg) (a : PySem.W.nsIn K mainGlobals x = some (some (.ref f)))
    (l : K.lookup f = some ⟨oc, od, .func (PySem.W.fnOf x x (defArgs st) (defBody st) (defScope st) .none kV doc pm an cdv ct), osl⟩) (c : PySem.W.codeIn K cdv x = true) (k : PySem.W.keepIn K (.ref f) = true) : HereS K mg x st :=
  ⟨f, _, fun_mk l c k, PySem.W.mg_of X G a⟩
end
end DL
namespace DL
open PySem L2 PyProof.Rows
/-! ### lists of texts -/
def ws (ls : List (List Nat)) : List D := ls.map fun l => .str (S l)
theorem ws_len (ls : List (List Nat)) : (ws ls).length = ls.length := by simp [ws]
theorem ws_get {ls : List (List Nat)} {i : Nat} {x : D} (h : (ws ls)[i]? = some x) : ∃ l, ls[i]? = some l ∧ x = .str (S l) := by
  unfold ws at h
  rw [List.getElem?_map] at h
  cases e : ls[i]? with
  | none => rw [e] at h; cases h
  | some c => rw [e] at h; exact ⟨c, rfl, (Option.some.inj h).symm⟩
theorem ws_app (l m : List (List Nat)) : ws l ++ ws m = ws (l ++ m) := by simp [ws]
theorem ws_rev (l : List (List Nat)) : (ws l).reverse = ws l.reverse := by simp [ws]
theorem ws_mem {ls : List (List Nat)} {x : D} (h : x ∈ ws ls) : ∃ c ∈ ls, x = .str (S c) := by
  obtain ⟨c, hc, rfl⟩ := List.mem_map.mp h
  exact ⟨c, hc, rfl⟩
theorem ws_take (ls : List (List Nat)) (k : Nat) : (ws ls).take k = ws (ls.take k) := List.map_take.symm
theorem fJoin_ws {ls : List (List Nat)} {P : R → Prop} (h : ls.flatten.length ≤ 1000000) (p : P (.sh (.str (S ls.flatten)))) : fJoin (.str (S [])) (.lst (ws ls)) P := fJoin_S h p
theorem take_snoc {α : Type} {l : List α} {i : Nat} {x : α} (h : l[i]? = some x) : l.take (i + 1) = l.take i ++ [x] := by
  rw [List.take_add_one, h]
  rfl
theorem flat_len {α : Type} {ls : List (List α)} {n : Nat} (h : ∀ l ∈ ls, l.length ≤ n) : ls.flatten.length ≤ ls.length * n := by
  induction ls with
  | nil => simp
  | cons l ls ih =>
    have h1 := h l List.mem_cons_self
    have h2 := ih fun m hm => h m (List.mem_cons_of_mem _ hm)
    rw [List.flatten_cons, List.length_append, List.length_cons, Nat.add_mul]
    omega
end DL
/-! sets of numbers and texts: what is in them, in the order of their coming -/
namespace SM
open PySem PyProof.Rows L2
def keyAt (e : Int × Value) : Key := match e.2 with
  | .int k _ => .inl k
  | .str z _ => .inr z
  | _ => .inl 0
def OkE (w : World) (e : Int × Value) : Prop := ∃ k : Key, keyIs k e.2 = true ∧ e.1 = keyH w k
/-- a set's parts -/
structure Pt (w : World) (L : List Key) (es : Array (Int × Value)) (t : SetTable) : Prop where
  ok : ∀ e ∈ es.toList, OkE w e
  pm : (es.toList.map keyAt).Perm L
  nd : L.Nodup
  sz : es.size < scanBound
  fit : t.fits es.size = true
  ris : Ris t.place.toList
  led : w.params.followText "set-order" = true ∨ t.led = true
def SetM (w : World) (h : Heap) (a : Addr) (L : List Key) : Prop := ∃ o es ep t, h.get? a = some o ∧ o.ExactSet ∧ o.data = .set es ep t ∧ Pt w L es t
section
variable {P : Program} {w : World} {A : Around} {E : Value → Shared → Prop} {s : Shared} {a : Addr} {L : List Key}
theorem keyAt_of {k : Key} {e : Int × Value} (h : keyIs k e.2 = true) : keyAt e = k := by
  obtain ⟨n, v⟩ := e
  rcases keyIs_shape h with ⟨i, t, rfl, h2⟩ | ⟨x, t, rfl, h2⟩
  · have h2 : v = Value.int i t := h2
    subst h2; rfl
  · have h2 : v = Value.str x t := h2
    subst h2; rfl
theorem is_iff {e : Int × Value} (h : OkE w e) (k : Key) : keyIs k e.2 = true ↔ keyAt e = k := by
  refine ⟨keyAt_of, fun q => ?_⟩
  obtain ⟨k0, h0, _⟩ := h
  rw [← q, keyAt_of h0]
  exact h0
theorem scan_of {k : Key} {v : Value} (h : keyIs k v = true) : v.scannable = true := by
  rcases keyIs_shape h with ⟨i, t, _, rfl⟩ | ⟨x, t, _, rfl⟩ <;> rfl
theorem els_of {l : List (Int × Value)} (h : ∀ e ∈ l, OkE w e) : ElemsOf (mixKind P w) l := by
  intro e he
  obtain ⟨k, h1, h2⟩ := h e he
  exact ⟨⟨k, h1, h2⟩, scan_of h1⟩
theorem Pt.len {es : Array (Int × Value)} {t : SetTable} (p : Pt w L es t) : L.length = es.size := by
  have := p.pm.length_eq
  rw [List.length_map, Array.length_toList] at this
  exact this.symm
theorem SetM.keep {h h' : Heap} (R : SetM w h a L) (k : ∀ o, h.get? a = some o → h'.get? a = some o) : SetM w h' a L := by
  obtain ⟨o, es, ep, t, ho, r⟩ := R
  exact ⟨o, es, ep, t, k o ho, r⟩
/-- the entries are written, the table laid anew if it is too full -/
theorem put_tail {f : Bool → Sem Unit} (hf : ∀ (b : Bool) (s₁ : Shared) (Q' : Unit → Shared → Prop), Q' () s₁ → wpAny (model P w) A (f b) Q' E s₁) {o : Obj} {es es1 : Array (Int × Value)} {ep : Nat} {t t2 : SetTable} (ho : s.heap.get? a = some o) (ex : o.ExactSet) (hd : o.data = .set es ep t)
    (p : Pt w L es1 t2) {wasDummy : Bool} {R : Option Bool → Shared → Prop} (k : ∀ h', Heap.SameBut a s.heap h' → SetM w h' a L → R (some true) { s with heap := h' }) :
    wpAny (model P w) A (do
      storeSet a es1 t2
      if (!wasDummy && t2.tooFull) = true then do
          f (relayAll t2 es1 (SetTable.grown es1.size)).2.2
          storeSet a (relayAll t2 es1 (SetTable.grown es1.size)).1 (relayAll t2 es1 (SetTable.grown es1.size)).2.1
          pure (some true)
        else pure (some true)) R E s := by
  have at1 := store_at (es' := es1) (t' := t2) ho hd
  have b1 := Heap.SameBut.update s.heap a (Obj.putSet es1 t2)
  refine wpAny_bind (wpAny_storeSet_of ho hd ?_ (fits_of_scanBound p.sz))
  split
  · have r1 := relayAll_perm t2 es1 (SetTable.grown es1.size)
    have r2 := relayAll_fits t2 es1 (SetTable.grown es1.size)
    have r3 := relayAll_ris t2 es1 (SetTable.grown es1.size)
    have r4 := relayAll_led t2 es1 (SetTable.grown es1.size)
    generalize relayAll t2 es1 (SetTable.grown es1.size) = rel at r1 r2 r3 r4 ⊢
    obtain ⟨es2, t3, fl⟩ := rel
    dsimp only at r1 r2 r3 r4 ⊢
    have e2 : es2.size = es1.size := by
      have := r1.length_eq
      rwa [Array.length_toList, Array.length_toList] at this
    have p3 : Pt w L es2 t3 := ⟨fun e he => p.ok e (r1.mem_iff.mp he), (r1.map keyAt).trans p.pm, p.nd, by rw [e2]; exact p.sz, r2, r3, p.led.elim .inl fun z => .inr (by rw [r4]; exact z)⟩
    refine wpAny_bind (hf _ _ _ (wpAny_bind (wpAny_storeSet_of at1 rfl ?_ (fits_of_scanBound p3.sz))))
    exact wpAny_pure (k _ (b1.trans (Heap.SameBut.update _ a _)) ⟨_, es2, _, t3, store_at (es' := es2) (t' := t3) at1 rfl, ex, rfl, p3⟩)
  · exact wpAny_pure (k _ b1 ⟨_, es1, _, t2, at1, ex, rfl, p⟩)
open Classical in
noncomputable def addL (L : List Key) (k : Key) : List Key := if k ∈ L then L else L ++ [k]
theorem any_rule (b : Bool) {x : String} {s₁ : Shared} {Q' : Unit → Shared → Prop} (q : Q' () s₁) : wpAny (model P w) A (match b with | true => rule x | false => pure ()) Q' E s₁ := by
  cases b
  · exact wpAny_pure q
  · exact wpAny_rule q
theorem add_hashed {k : Key} {v : Value} {Q : Bool → Shared → Prop} (R : SetM w s.heap a L) (room : L.length + 1 < scanBound) (hk : keyIs k v = true)
    (q : ∀ (h' : Heap) (b : Bool), Heap.SameBut a s.heap h' → SetM w h' a (addL L k) → Q b { s with heap := h' }) : wpAny (model P w) A (setAddHashed a v ((mixKind P w).hash k)) Q E s := by
  obtain ⟨o, es, ep, t, ho, ex, hd, p⟩ := R
  have els : ElemsOf (mixKind P w) es.toList := els_of p.ok
  unfold setAddHashed setAddHashedIn
  refine wpAny_holding (wpAny_bind (wpAny_setState_of ho hd p.fit ?_))
  dsimp only
  rw [byScan_of (scan_of hk) p.sz els, if_pos rfl]
  unfold setAddByScan
  refine wpAny_bind (wpAny_bind (wpAny_rule (wpAny_bind (wpAny_setScan_of (knd := mixKind P w) hk ho hd p.fit els ?_))))
  have inL : ∀ j : Key, j ∈ L ↔ ∃ e ∈ es.toList, keyIs j e.2 = true := fun j => by
    rw [← p.pm.mem_iff, List.mem_map]
    exact ⟨fun ⟨e, he, z⟩ => ⟨e, he, (is_iff (p.ok e he) j).2 z⟩, fun ⟨e, he, z⟩ => ⟨e, he, (is_iff (p.ok e he) j).1 z⟩⟩
  cases found : List.findIdx? (fun e => (mixKind P w).is k e.2) es.toList with
  | some j =>
    dsimp only
    obtain ⟨hj, pj, _⟩ := List.findIdx?_eq_some_iff_getElem.mp found
    have mem : k ∈ L := (inL k).2 ⟨_, List.getElem_mem hj, pj⟩
    have e : addL L k = L := if_pos mem
    exact wpAny_pure (wpAny_pure (q s.heap _ (Heap.SameBut.refl a s.heap) (by rw [e]; exact ⟨o, es, ep, t, ho, ex, hd, p⟩)))
  | none =>
    dsimp only
    have nm : k ∉ L := fun z => by
      obtain ⟨e, he, ie⟩ := (inL k).1 z
      have no := List.findIdx?_eq_none_iff.mp found e he
      exact absurd (no.symm.trans ie) (by decide)
    have e : addL L k = L ++ [k] := if_neg nm
    rw [e] at q
    have l1 := layNew_perm t es ((mixKind P w).hash k) v
    have l2 := layNew_fits t es ((mixKind P w).hash k) v
    have l3 := layNew_ris t es ((mixKind P w).hash k) v p.ris
    have l4 := layNew_led t es ((mixKind P w).hash k) v
    generalize layNew t es ((mixKind P w).hash k) v = ln at l1 l2 l3 l4 ⊢
    obtain ⟨es1, t1, wd, gv⟩ := ln
    dsimp only at l1 l2 l3 l4 ⊢
    rw [Array.toList_push] at l1
    have hkA : keyAt ((mixKind P w).hash k, v) = k := keyAt_of hk
    have mp : (es1.toList.map keyAt).Perm (L ++ [k]) := by
      refine (l1.map keyAt).trans ?_
      rw [List.map_append]
      show (es.toList.map keyAt ++ [keyAt ((mixKind P w).hash k, v)]).Perm _
      rw [hkA]
      exact p.pm.append_right [k]
    have sz1 : es1.size = es.size + 1 := by
      have := l1.length_eq
      rwa [List.length_append, Array.length_toList, Array.length_toList] at this
    have p1 : Pt w (L ++ [k]) es1 t1 := by
      refine ⟨fun e he => ?_, mp, ?_, by rw [sz1, ← p.len]; exact room, l2, l3, p.led.elim .inl fun z => .inr (by rw [l4]; exact z)⟩
      · rcases List.mem_append.mp (l1.mem_iff.mp he) with z | z
        · exact p.ok e z
        · rw [List.mem_singleton.mp z]
          exact ⟨k, hk, rfl⟩
      · rw [List.nodup_append]
        exact ⟨p.nd, by simp, fun x hx y hy => by rw [List.mem_singleton.mp hy]; rintro rfl; exact nm hx⟩
    refine wpAny_bind (any_rule gv ?_)
    split
    · refine wpAny_bind ?_
      rw [hashByValue_scannable 8 (scan_of hk)]
      refine wpAny_pure (put_tail (fun b s₁ Q' z => any_rule b z) ho ex hd (t2 := _) ⟨p1.ok, p1.pm, p1.nd, p1.sz, ?_, ?_, ?_⟩ fun h' sb r => wpAny_pure (q h' _ sb r))
      all_goals (first | (split <;> first | exact p1.fit | exact SetTable.fits_plain_off p1.fit | exact p1.ris | exact p1.led) | exact p1.fit | exact p1.ris | exact p1.led)
    · refine wpAny_bind (wpAny_pure ?_)
      simp only [↓reduceIte]
      exact put_tail (fun b s₁ Q' z => any_rule b z) ho ex hd p1 fun h' sb r => wpAny_pure (q h' _ sb r)

/-! ### the keys met so far; set(xs) -/
noncomputable def dist (ks : List Key) : List Key := ks.foldl addL []
theorem dist_snoc (ks : List Key) (k : Key) : dist (ks ++ [k]) = addL (dist ks) k := by unfold dist; rw [List.foldl_append]; rfl
theorem mem_addL {L : List Key} {k j : Key} : j ∈ addL L k ↔ j ∈ L ∨ j = k := by
  unfold addL
  split
  · exact ⟨.inl, fun h => h.elim id fun e => by rw [e]; assumption⟩
  · simp
theorem len_addL {L : List Key} {k : Key} : (addL L k).length ≤ L.length + 1 := by
  unfold addL
  split
  · exact Nat.le_succ _
  · simp
theorem nodup_addL {L : List Key} {k : Key} (h : L.Nodup) : (addL L k).Nodup := by
  unfold addL
  split
  · exact h
  · rename_i nm
    rw [List.nodup_append]
    exact ⟨h, by simp, fun x hx y hy => by rw [List.mem_singleton.mp hy]; rintro rfl; exact nm hx⟩
theorem fold_mem : ∀ {ks L : List Key} {j : Key}, j ∈ ks.foldl addL L ↔ j ∈ L ∨ j ∈ ks
  | [], L, j => by simp
  | k :: ks, L, j => by rw [List.foldl_cons, fold_mem (ks := ks), mem_addL, List.mem_cons, or_assoc]
theorem fold_nodup : ∀ {ks L : List Key}, L.Nodup → (ks.foldl addL L).Nodup
  | [], L, h => h
  | k :: ks, L, h => fold_nodup (ks := ks) (nodup_addL h)
theorem fold_len : ∀ {ks L : List Key}, (ks.foldl addL L).length ≤ L.length + ks.length
  | [], L => by simp
  | k :: ks, L => by
    have h1 := fold_len (ks := ks) (L := addL L k)
    have h2 := len_addL (L := L) (k := k)
    rw [List.foldl_cons, List.length_cons]
    omega
theorem mem_dist {ks : List Key} {j : Key} : j ∈ dist ks ↔ j ∈ ks := by unfold dist; rw [fold_mem]; simp
theorem nodup_dist (ks : List Key) : (dist ks).Nodup := fold_nodup (by simp)
theorem len_dist (ks : List Key) : (dist ks).length ≤ ks.length := by
  unfold dist
  have := fold_len (ks := ks) (L := [])
  simpa using this
theorem upd_loop {I : Addr} {fp wr : List Addr} {G : Array GenState → Array GenState → Prop} {n : Nat} {Pv : Nat → Value → Prop} {St : Nat → Shared → Prop} {R : Result → Shared → Prop} (W : WalksS P w A.in1 I fp wr G n Pv St) (T : Addr) (hT : T ∉ fp) (ks : List Key) (hn : n = ks.length) (hb : ks.length + 1 < scanBound)
    (hv : ∀ i v, Pv i v → ∃ k, ks[i]? = some k ∧ keyIs k v = true) : ∀ (r i : Nat) (s : Shared), n - i = r → i ≤ n → St i s → SetM w s.heap T (dist (ks.take i)) →
      (∀ s', Moved (T :: wr) G s s' → SetM w s'.heap T (dist ks) → R (.ok (.ret .none)) s') → codeAny (model P w) A (.builtin "set.update.loop" ⟨[.ref T, .ref I], []⟩) R s := by
  have notW : T ∉ wr := fun h => hT (W.sub _ h)
  have more : ∀ b ∈ wr, b ∈ T :: wr := fun b h => List.mem_cons_of_mem _ h
  intro r
  induction r with
  | zero =>
    intro i s hr hi st hS fin
    obtain rfl : i = n := by omega
    have all : ks.take i = ks := List.take_of_length_le (by omega)
    rw [all] at hS
    refine codeAny_builtin F.entry_set_update_loop ?_
    rw [Around.under_plainId F.plain_set_update_loop _]
    show wpAny _ A.in1 (pyNext (.ref I) >>= fun _ => _) _ _ s
    refine wpAny_bind (W.done s _ _ st fun s' mv => ?_)
    show wpAny _ A.in1 (ret .none) _ _ s'
    exact wpAny_pure (fin s' (mv.mono more) (hS.keep fun o e => mv.heap T o notW e))
  | succ r ih =>
    intro i s hr hi st hS fin
    have lt : i < n := by omega
    refine codeAny_builtin F.entry_set_update_loop ?_
    rw [Around.under_plainId F.plain_set_update_loop _]
    show wpAny _ A.in1 (pyNext (.ref I) >>= fun _ => _) _ _ s
    refine wpAny_bind (W.item i s _ _ lt st fun v s' pv st' mv => ?_)
    obtain ⟨k, hk, kv⟩ := hv i v pv
    have S1 : SetM w s'.heap T (dist (ks.take i)) := hS.keep fun o e => mv.heap T o notW e
    have nx : dist (ks.take (i + 1)) = addL (dist (ks.take i)) k := by rw [List.take_add_one, hk]; exact dist_snoc _ _
    have small : (dist (ks.take i)).length + 1 < scanBound := by
      have := len_dist (ks.take i)
      rw [List.length_take] at this
      omega
    show wpAny _ A.in1 (holding [v] (setAdd T v) >>= fun _ => _) _ _ s'
    refine wpAny_bind (wpAny_holding ?_)
    unfold setAdd
    refine wpAny_holding (wpAny_bind ((mixKind P w).pyHash (k := k) kv ?_))
    refine add_hashed (s := { s' with toks := s'.toks + 1 }) S1 small kv fun h' b sb S2 => ?_
    rw [← nx] at S2
    refine wpAny_pure ⟨plainId_quiet F.plain_set_update_loop _, ih (i + 1) _ (by omega) lt (W.frame _ s' _ _ st' (Nat.le_succ _) fun c hc o e => ?_) S2 fun s'' mv2 S3 => ?_⟩
    · rw [sb.2 c (fun z : c = T => hT (z ▸ hc))]
      exact e
    · refine fin s'' (Moved.trans W.gtrans ((mv.mono more).then_heap (Nat.le_succ _) fun c o hc e => ?_) mv2) S3
      rw [sb.2 c (fun z : c = T => hc (z ▸ List.mem_cons_self))]
      exact e
abbrev e0 (w : World) : Obj := { cls := .type "set", dict := none, data := .set #[] 0 (.fresh 0 0 (!w.params.followText "set-order")) }
theorem fresh_m {h : Heap} {b : Addr} (e : h.get? b = some (e0 w)) : SetM w h b (dist []) := by
  refine ⟨_, #[], 0, _, e, ⟨rfl, rfl, rfl⟩, rfl, ⟨fun x hx => by simp at hx, by simp [dist], by simp [dist], by decide, rfl, List.Pairwise.nil, ?_⟩⟩
  show _ ∨ (!w.params.followText "set-order") = true
  cases w.params.followText "set-order"
  · exact .inr rfl
  · exact .inl rfl
theorem vals_at {ks : List Key} {vs : List Value} (h : Vals (ks.map kV) vs) {i : Nat} {v : Value} (e : vs[i]? = some v) : ∃ k, ks[i]? = some k ∧ keyIs k v = true := by
  induction ks generalizing vs i with
  | nil => cases h; cases e
  | cons k ks ih =>
    cases h with
    | cons r rt =>
      cases i with
      | zero =>
        cases e
        refine ⟨k, rfl, ?_⟩
        cases k with
        | inl j =>
          obtain ⟨t, rfl⟩ := r
          exact keyIs_int j t
        | inr x =>
          obtain ⟨t, rfl⟩ := r
          exact keyIs_str x t
      | succ i => exact ih rt e

theorem empty_set_get {h : Heap} : (h.push (e0 w)).get? h.objs.size = some (e0 w) := Heap.get?_push_size _ rfl
/-- set(xs), xs a list of numbers and texts -/
theorem call_set_lst {l : Addr} {items : Array Value} (ks : List Key) {Q : Value → Shared → Prop} (hh : A.handled = none) (il : s.heap.IsList l items) (rv : Vals (ks.map kV) items.toList) (hb : ks.length + 1 < scanBound)
    (q : ∀ (h' : Heap) (tk : Nat), SetM w h' s.heap.objs.size (dist ks) → (∀ b o, s.heap.get? b = some o → h'.get? b = some o) → Q (.ref s.heap.objs.size) { s with heap := h', toks := tk }) : wpAny (model P w) A (call (.type "set") [.ref l]) Q E s := by
  have nk : items.size = ks.length := by
    have := rv.length
    rw [List.length_map, Array.length_toList] at this
    exact this.symm
  obtain ⟨c, tl, hmro⟩ := F.called_set.mro
  have made := F.called_set.made
  have subs := F.called_set.sub
  have nt := F.called_set.notType
  have cc := F.called_set.canCreate
  have tc := F.typeCall_set_1 (.ref l)
  refine wpAny_call (codeAny_of_tree ?_)
  show wpAny _ _ (callAny (.type "set") ⟨[.ref l], []⟩) _ _ _
  refine wpAny_pure ⟨Code.quiet_builtin _ (by decide +kernel), codeAny_builtin F.entry_type_call ?_⟩
  rw [Around.under_plain (weight_type_call_type "set" [.ref l] []) rfl]
  repeat (any_goals first | assumption | wp_step)
  refine codeAny_mono (code_set_led1 (.ref l) (E := E) (Q₁ := fun y s₁ => y = .ref s.heap.objs.size ∧ s₁ = { s with heap := s.heap.push (e0 w) }) ⟨rfl, rfl⟩) fun r s₁ hr => ?_
  cases r with
  | error e => exact hr
  | ok fl =>
    cases fl with
    | ret y =>
      obtain ⟨rfl, rfl⟩ := hr
      have at0 : (s.heap.push (e0 w)).get? s.heap.objs.size = some (e0 w) := empty_set_get
      have ty0 : Shared.TypeIs { s with heap := s.heap.push (e0 w) } (.ref s.heap.objs.size) "set" := ⟨_, at0, rfl⟩
      have lk := F.called_set.init.lookup
      have bd := F.called_set.init.bind (.ref s.heap.objs.size)
      repeat (any_goals first | assumption | wp_step)
      refine codeAny_mono (codeAny_call_builtin (R := wants (fun r s₂ => r = .none ∧ ∃ h' tk, s₂ = { s with heap := h', toks := tk } ∧ SetM w h' s.heap.objs.size (dist ks) ∧ ∀ b o, s.heap.get? b = some o → h'.get? b = some o) E) F.called_set.init.plain F.entry_set_init (check_set_init_1 ty0 ?_)) fun r₂ s₂ h₂ => ?_
      · obtain ⟨⟨cl, di, da, sl⟩, get, hc, nl, hd⟩ := il
        simp only at hc hd
        subst hc hd
        have get1 : (s.heap.push (e0 w)).get? l = some { cls := .type "list", dict := di, data := .seq items nl, slots := sl } := Heap.get?_push_of_some _ get
        have nd1 : (Value.type "list" == Value.type "dict") = false := by decide
        have ss1 := F.sub_list_set
        have ss2 := F.sub_list_frozenset
        have il1 : (s.heap.push (e0 w)).IsList l items := ⟨_, get1, rfl, nl, rfl⟩
        have below : l < s.heap.objs.size := Heap.lt_size get
        unfold Builtin.«set.__init__» noKeywords Builtin.Frozenset.updateFrom
        generalize hPI : pyIter = PI
        wp_walk
        subst hPI
        have hh3 : A.in1.in1.in1.handled = none := by simp [hh]
        refine wpAny_pyIter_list il1 (wpAny_bind (wpAny_runValue ?_))
        have up : (s.heap.push (e0 w)).objs.size = s.heap.objs.size + 1 := Heap.size_push ..
        have apart : l ≠ (s.heap.push (e0 w)).objs.size := by rw [up]; exact Nat.ne_of_lt (Nat.lt_succ_of_lt below)
        refine upd_loop ((Walks.list hh3 _ l apart items).toS) s.heap.objs.size ?out ks nk hb (fun i v e => vals_at rv (by rw [Array.getElem?_toList]; exact e)) items.size 0 _ (by omega) (Nat.zero_le _) ⟨⟨_, Heap.get?_push_size _ rfl, rfl, rfl⟩, il1.push _⟩ ?new ?fin
        case out =>
          rw [up]
          simp only [List.mem_cons, List.not_mem_nil, or_false, not_or]
          exact ⟨Nat.ne_of_lt (Nat.lt_succ_self _), Nat.ne_of_gt below⟩
        case new => exact fresh_m (Heap.get?_push_of_some _ at0)
        case fin =>
          rintro ⟨h', g2, d2, tk, os⟩ mv m
          obtain rfl : g2 = s.gens := mv.gens
          obtain rfl : d2 = s.drawn := mv.drawn
          obtain rfl : os = s.os := mv.os
          show wpAny _ _ _ _ _ _
          refine wpAny_pure ?_
          show wpAny _ _ (ret Value.none) _ _ _
          refine wpAny_pure ⟨rfl, h', tk, rfl, m, fun b o e => mv.heap b o ?_ (Heap.get?_push_of_some _ (Heap.get?_push_of_some _ e))⟩
          have lb := Heap.lt_size e
          rw [up]
          simp only [List.mem_cons, List.not_mem_nil, or_false, not_or]
          exact ⟨Nat.ne_of_lt lb, Nat.ne_of_lt (Nat.lt_succ_of_lt lb)⟩
      · cases r₂ with
        | error e => exact h₂
        | ok fl₂ =>
          cases fl₂ with
          | ret y =>
            obtain ⟨rfl, h', tk, rfl, m, kp⟩ := h₂
            repeat (any_goals first | assumption | wp_step)
            exact q _ _ m kp
          | _ => exact h₂.elim
    | _ => exact hr.elim
/-- set(xs), xs a tuple of numbers and texts -/
theorem call_set_tup {l : Addr} {items : Array Value} (ks : List Key) {Q : Value → Shared → Prop} (hh : A.handled = none) (il : s.heap.IsTuple l items) (rv : Vals (ks.map kV) items.toList) (hb : ks.length + 1 < scanBound)
    (q : ∀ (h' : Heap) (tk : Nat), SetM w h' s.heap.objs.size (dist ks) → (∀ b o, s.heap.get? b = some o → h'.get? b = some o) → Q (.ref s.heap.objs.size) { s with heap := h', toks := tk }) : wpAny (model P w) A (call (.type "set") [.ref l]) Q E s := by
  have nk : items.size = ks.length := by
    have := rv.length
    rw [List.length_map, Array.length_toList] at this
    exact this.symm
  obtain ⟨c, tl, hmro⟩ := F.called_set.mro
  have made := F.called_set.made
  have subs := F.called_set.sub
  have nt := F.called_set.notType
  have cc := F.called_set.canCreate
  have tc := F.typeCall_set_1 (.ref l)
  refine wpAny_call (codeAny_of_tree ?_)
  show wpAny _ _ (callAny (.type "set") ⟨[.ref l], []⟩) _ _ _
  refine wpAny_pure ⟨Code.quiet_builtin _ (by decide +kernel), codeAny_builtin F.entry_type_call ?_⟩
  rw [Around.under_plain (weight_type_call_type "set" [.ref l] []) rfl]
  repeat (any_goals first | assumption | wp_step)
  refine codeAny_mono (code_set_led1 (.ref l) (E := E) (Q₁ := fun y s₁ => y = .ref s.heap.objs.size ∧ s₁ = { s with heap := s.heap.push (e0 w) }) ⟨rfl, rfl⟩) fun r s₁ hr => ?_
  cases r with
  | error e => exact hr
  | ok fl =>
    cases fl with
    | ret y =>
      obtain ⟨rfl, rfl⟩ := hr
      have at0 : (s.heap.push (e0 w)).get? s.heap.objs.size = some (e0 w) := empty_set_get
      have ty0 : Shared.TypeIs { s with heap := s.heap.push (e0 w) } (.ref s.heap.objs.size) "set" := ⟨_, at0, rfl⟩
      have lk := F.called_set.init.lookup
      have bd := F.called_set.init.bind (.ref s.heap.objs.size)
      repeat (any_goals first | assumption | wp_step)
      refine codeAny_mono (codeAny_call_builtin (R := wants (fun r s₂ => r = .none ∧ ∃ h' tk, s₂ = { s with heap := h', toks := tk } ∧ SetM w h' s.heap.objs.size (dist ks) ∧ ∀ b o, s.heap.get? b = some o → h'.get? b = some o) E) F.called_set.init.plain F.entry_set_init (check_set_init_1 ty0 ?_)) fun r₂ s₂ h₂ => ?_
      · obtain ⟨⟨cl, di, da, sl⟩, get, hc, nl, hd⟩ := il
        simp only at hc hd
        subst hc hd
        have get1 : (s.heap.push (e0 w)).get? l = some { cls := .type "tuple", dict := di, data := .seq items nl, slots := sl } := Heap.get?_push_of_some _ get
        have nd1 : (Value.type "tuple" == Value.type "dict") = false := by decide
        have ss1 := F.sub_tuple_set
        have ss2 := F.sub_tuple_frozenset
        have il1 : (s.heap.push (e0 w)).IsTuple l items := ⟨_, get1, rfl, nl, rfl⟩
        have below : l < s.heap.objs.size := Heap.lt_size get
        unfold Builtin.«set.__init__» noKeywords Builtin.Frozenset.updateFrom
        generalize hPI : pyIter = PI
        wp_walk
        subst hPI
        have hh3 : A.in1.in1.in1.handled = none := by simp [hh]
        refine wpAny_pyIter_tuple il1 (wpAny_bind (wpAny_runValue ?_))
        have up : (s.heap.push (e0 w)).objs.size = s.heap.objs.size + 1 := Heap.size_push ..
        have apart : l ≠ (s.heap.push (e0 w)).objs.size := by rw [up]; exact Nat.ne_of_lt (Nat.lt_succ_of_lt below)
        refine upd_loop ((Walks.tuple hh3 _ l apart items).toS) s.heap.objs.size ?out ks nk hb (fun i v e => vals_at rv (by rw [Array.getElem?_toList]; exact e)) items.size 0 _ (by omega) (Nat.zero_le _) ⟨⟨_, Heap.get?_push_size _ rfl, rfl, rfl⟩, il1.push _⟩ ?new ?fin
        case out =>
          rw [up]
          simp only [List.mem_cons, List.not_mem_nil, or_false, not_or]
          exact ⟨Nat.ne_of_lt (Nat.lt_succ_self _), Nat.ne_of_gt below⟩
        case new => exact fresh_m (Heap.get?_push_of_some _ at0)
        case fin =>
          rintro ⟨h', g2, d2, tk, os⟩ mv m
          obtain rfl : g2 = s.gens := mv.gens
          obtain rfl : d2 = s.drawn := mv.drawn
          obtain rfl : os = s.os := mv.os
          show wpAny _ _ _ _ _ _
          refine wpAny_pure ?_
          show wpAny _ _ (ret Value.none) _ _ _
          refine wpAny_pure ⟨rfl, h', tk, rfl, m, fun b o e => mv.heap b o ?_ (Heap.get?_push_of_some _ (Heap.get?_push_of_some _ e))⟩
          have lb := Heap.lt_size e
          rw [up]
          simp only [List.mem_cons, List.not_mem_nil, or_false, not_or]
          exact ⟨Nat.ne_of_lt lb, Nat.ne_of_lt (Nat.lt_succ_of_lt lb)⟩
      · cases r₂ with
        | error e => exact h₂
        | ok fl₂ =>
          cases fl₂ with
          | ret y =>
            obtain ⟨rfl, h', tk, rfl, m, kp⟩ := h₂
            repeat (any_goals first | assumption | wp_step)
            exact q _ _ m kp
          | _ => exact h₂.elim
    | _ => exact hr.elim

/-! ### sorted(set) -/
theorem strs_of_keys : ∀ {vs : List Value}, (∀ v ∈ vs, ∃ z t, v = Value.str z t) → ∃ zs, StrsAre vs zs ∧ zs.map Sum.inr = vs.map fun v => keyAt (0, v)
  | [], _ => ⟨[], .nil, rfl⟩
  | v :: vs, h => by
    obtain ⟨z, t, rfl⟩ := h v List.mem_cons_self
    obtain ⟨zs, h1, h2⟩ := strs_of_keys (vs := vs) fun u hu => h u (List.mem_cons_of_mem _ hu)
    exact ⟨z :: zs, .cons z t h1, by rw [List.map_cons, List.map_cons, h2]; rfl⟩
theorem ints_of_keys : ∀ {vs : List Value}, (∀ v ∈ vs, ∃ k t, v = Value.int k t) → ∃ ns, IntsAre vs ns ∧ ns.map Sum.inl = vs.map fun v => keyAt (0, v)
  | [], _ => ⟨[], .nil, rfl⟩
  | v :: vs, h => by
    obtain ⟨z, t, rfl⟩ := h v List.mem_cons_self
    obtain ⟨zs, h1, h2⟩ := ints_of_keys (vs := vs) fun u hu => h u (List.mem_cons_of_mem _ hu)
    exact ⟨z :: zs, .cons z t h1, by rw [List.map_cons, List.map_cons, h2]; rfl⟩
theorem perm_inr {zs ys : List Str} (h : (zs.map (Sum.inr : Str → Key)).Perm (ys.map Sum.inr)) : zs.Perm ys := by
  have := h.map fun k : Key => match k with | .inr z => z | .inl _ => ("" : Str)
  rw [List.map_map, List.map_map] at this
  have e : ∀ l : List Str, l.map ((fun k : Key => match k with | .inr z => z | .inl _ => ("" : Str)) ∘ Sum.inr) = l := fun l => by
    conv => rhs; rw [← List.map_id l]
    rfl
  rwa [e, e] at this
theorem perm_inl {zs ys : List Int} (h : (zs.map (Sum.inl : Int → Key)).Perm (ys.map Sum.inl)) : zs.Perm ys := by
  have := h.map fun k : Key => match k with | .inl z => z | .inr _ => (0 : Int)
  rw [List.map_map, List.map_map] at this
  have e : ∀ l : List Int, l.map ((fun k : Key => match k with | .inl z => z | .inr _ => (0 : Int)) ∘ Sum.inl) = l := fun l => by
    conv => rhs; rw [← List.map_id l]
    rfl
  rwa [e, e] at this
/-- the values of a set, in some order -/
theorem collect_m {Q : List Value → Shared → Prop} (hh : A.handled = none) (R : SetM w s.heap a L)
    (q : ∀ s1 vs, (∀ b o, s.heap.get? b = some o → s1.heap.get? b = some o) → s.heap.objs.size ≤ s1.heap.objs.size → s1.gens = s.gens → s1.os = s.os → (vs.map fun v => keyAt (0, v)).Perm L → (∀ v ∈ vs, ∃ k ∈ L, keyIs k v = true) → vs.length < scanBound → Q vs s1) :
    wpAny (model P w) A (collect (.ref a)) Q E s := by
  obtain ⟨o, es, ep, t, ho, ex, hd, p⟩ := R
  refine collect_set hh ⟨o, ho, ex.1, hd⟩ p.fit p.sz p.ris p.led fun s1 out kp up g os pm => q s1 out kp up g os ?_ (fun v hv => ?_) ?_
  · refine List.Perm.trans ?_ p.pm
    have := pm.map fun v => keyAt (0, v)
    rw [List.map_map] at this
    exact this
  · obtain ⟨e, he, rfl⟩ := List.mem_map.mp (pm.mem_iff.mp hv)
    obtain ⟨k, hk, _⟩ := p.ok e he
    exact ⟨k, p.pm.mem_iff.mp (List.mem_map.mpr ⟨e, he, keyAt_of hk⟩), hk⟩
  · rw [pm.length_eq, List.length_map, Array.length_toList]
    exact p.sz
/-- sorted(s), s a set of texts -/
theorem sorted_tx {zs : List Str} {Q : Value → Shared → Prop} (R : SetM w s.heap a (zs.map Sum.inr)) (hh : A.handled = none)
    (q : ∀ s' l (out : Array Value) (c : Nat) (ys : List Str), (∀ b o, s.heap.get? b = some o → s'.heap.get? b = some o) → s'.gens = s.gens → s'.os = s.os → s.heap.objs.size ≤ l → s'.heap.get? l = some (seqObj "list" out c) → StrsAre out.toList ys → ys.Perm zs → sortedS ys = true → Q (.ref l) s') :
    wpAny (model P w) A (call (.builtin "sorted") [.ref a]) Q E s := by
  refine Calls.call_function_entry kind_sorted plain_sorted entry_sorted (args_sorted1 _) ?_
  unfold Builtin.«sorted»
  refine wpAny_bind (m := checkCount "sorted" 1 1 _) (wpAny_pure (wpAny_bind (collect_m (A := A.in1) hh R fun s1 vs kp up g os pm mem sz => ?_)))
  obtain ⟨ss, hs, es⟩ := strs_of_keys (vs := vs) fun v hv => by
    obtain ⟨k, hk, hv⟩ := mem v hv
    obtain ⟨z, _, rfl⟩ := List.mem_map.mp hk
    rcases keyIs_shape hv with ⟨i, t, e, _⟩ | ⟨x, t, _, e⟩
    · cases e
    · exact ⟨x, t, e⟩
  have pz : ss.Perm zs := perm_inr (by rw [es]; exact pm)
  have fits := fits_of_scanBound sz
  refine wpAny_bind (wpAny_newList ?_ fits)
  have at1 : (s1.heap.push (seqObj "list" vs.toArray 0)).get? s1.heap.objs.size = some (seqObj "list" vs.toArray 0) := Heap.get?_push_size _ rfl
  refine wpAny_bind (wpAny_holding (wpAny_call_entry slot_list_sort ⟨_, at1, rfl⟩ entry_list_sort (list_sort_treeKAny strKind_oneLt at1 hs.keysOf (fun v₁ v₂ rest e => keyKind_strs (by rw [← e]; exact hs)) fits fun st hp hso => ⟨_, rfl, ?_⟩) (args_list_sort _)))
  obtain ⟨ys, o1, o2, o3⟩ := sorted_out_str hs hp hso
  obtain ⟨c, ac⟩ := sortedHeap_at (vs := vs) (out := (arrOf st).map (·.2)) at1
  refine wpAny_pure ⟨_, rfl, q _ s1.heap.objs.size _ c ys (fun b u e => ?_) g os up ac o1 (o2.trans pz) o3⟩
  have old := kp b u e
  have lt := Heap.lt_size old
  show (sortedHeap (s1.heap.push (seqObj "list" vs.toArray 0)) s1.heap.objs.size vs _).get? b = some u
  rw [sortedHeap_old (Nat.ne_of_lt lt) (by rw [size_push']; exact Nat.lt_succ_of_lt lt)]
  exact Heap.get?_push_of_some _ old
/-- sorted(s), s a set of numbers -/
theorem sorted_nm {zs : List Int} {Q : Value → Shared → Prop} (R : SetM w s.heap a (zs.map Sum.inl)) (hh : A.handled = none)
    (q : ∀ s' l (out : Array Value) (c : Nat) (ys : List Int), (∀ b o, s.heap.get? b = some o → s'.heap.get? b = some o) → s'.gens = s.gens → s'.os = s.os → s.heap.objs.size ≤ l → s'.heap.get? l = some (seqObj "list" out c) → IntsAre out.toList ys → ys.Perm zs → ys.Pairwise (· ≤ ·) → Q (.ref l) s') :
    wpAny (model P w) A (call (.builtin "sorted") [.ref a]) Q E s := by
  refine Calls.call_function_entry kind_sorted plain_sorted entry_sorted (args_sorted1 _) ?_
  unfold Builtin.«sorted»
  refine wpAny_bind (m := checkCount "sorted" 1 1 _) (wpAny_pure (wpAny_bind (collect_m (A := A.in1) hh R fun s1 vs kp up g os pm mem sz => ?_)))
  obtain ⟨ss, hs, es⟩ := ints_of_keys (vs := vs) fun v hv => by
    obtain ⟨k, hk, hv⟩ := mem v hv
    obtain ⟨z, _, rfl⟩ := List.mem_map.mp hk
    rcases keyIs_shape hv with ⟨i, t, _, e⟩ | ⟨x, t, e, _⟩
    · exact ⟨i, t, e⟩
    · cases e
  have pz : ss.Perm zs := perm_inl (by rw [es]; exact pm)
  have fits := fits_of_scanBound sz
  refine wpAny_bind (wpAny_newList ?_ fits)
  have at1 : (s1.heap.push (seqObj "list" vs.toArray 0)).get? s1.heap.objs.size = some (seqObj "list" vs.toArray 0) := Heap.get?_push_size _ rfl
  refine wpAny_bind (wpAny_holding (wpAny_call_entry slot_list_sort ⟨_, at1, rfl⟩ entry_list_sort (list_sort_treeAny at1 hs fits fun out ys o1 o2 o3 => ⟨_, rfl, ?_⟩) (args_list_sort _)))
  obtain ⟨c, ac⟩ := sortedHeap_at (vs := vs) (out := out) at1
  refine wpAny_pure ⟨_, rfl, q _ s1.heap.objs.size _ c ys (fun b u e => ?_) g os up ac o1 (o2.trans pz) o3⟩
  have old := kp b u e
  have lt := Heap.lt_size old
  show (sortedHeap (s1.heap.push (seqObj "list" vs.toArray 0)) s1.heap.objs.size vs _).get? b = some u
  rw [sortedHeap_old (Nat.ne_of_lt lt) (by rw [size_push']; exact Nat.lt_succ_of_lt lt)]
  exact Heap.get?_push_of_some _ old
end
/-! ### over the abstract heap -/
def SetMO (w : World) (a : Addr) (L : List Key) : HO := .ext fun h => SetM w h a L
theorem setMO_ok {P : Program} {w : World} {H : Hp} {h : Heap} {a : Addr} {L : List Key} (R : SetM w h a L) : ObjOk P w H h a (SetMO w a L) := by
  obtain ⟨o, es, ep, t, ho, r⟩ := id R
  exact ⟨R, ⟨o, ho⟩, fun h1 h2 x k => x.keep k⟩
section
variable {X : Cx}
def rSetM (K : PySem.W.Frag) (w : World) : List V → Hp → VK → Prop := fun xs H Q => ∃ (l : Addr) (ks : List Key), xs = [.ref l] ∧ (SqL K H l (ks.map kV) ∨ SqT K H l (ks.map kV)) ∧ ks.length + 1 < scanBound ∧ ∀ p, H p = none → Q (.ref p) (upd H p (SetMO w p (dist ks)))
theorem cr_setM (hc : X.calm = true) : CallR X (.type "set") (rSetM X.K X.w) := by
  intro pins s σ H xs us Q inv rs hyp
  obtain ⟨l, ks, rfl, hq, hb, q⟩ := hyp
  rw [Vals.ref1 rs]
  have fin : ∀ (h' : Heap) (tk : Nat), SetM X.w h' s.heap.objs.size (dist ks) → (∀ b o, s.heap.get? b = some o → h'.get? b = some o) → EP X pins σ Q (.ref s.heap.objs.size) { s with heap := h', toks := tk } := fun h' tk m kp =>
    ⟨.ref _, _, inv.laid (t' := tk) kp (Nat.le_refl _) (setMO_ok m), rfl, q _ (inv.hok.fresh (Nat.le_refl _))⟩
  rcases hq with hq | hq
  · obtain ⟨its, rv, pl, _⟩ := inv.list hq
    exact call_set_lst ks (inv.ok.hd hc) pl.isList (by simpa using rv) hb fin
  · obtain ⟨its, rv, pl, _⟩ := inv.tuple hq
    exact call_set_tup ks (inv.ok.hd hc) (show s.heap.IsTuple l its.toArray from pl) (by simpa using rv) hb fin
def rSortM (w : World) : List V → Hp → VK → Prop := fun xs H Q => ∃ (a : Addr) (L : List Key), xs = [.ref a] ∧ H a = some (SetMO w a L) ∧
  ((∃ zs, L = zs.map Sum.inr ∧ ∀ (ys : List Str) p, ys.Perm zs → sortedS ys = true → H p = none → Q (.ref p) (upd H p (.lst (ys.map V.str)))) ∨
   (∃ zs, L = zs.map Sum.inl ∧ ∀ (ys : List Int) p, ys.Perm zs → ys.Pairwise (· ≤ ·) → H p = none → Q (.ref p) (upd H p (.lst (ys.map V.int)))))
theorem cr_sortM (hc : X.calm = true) : CallR X (.builtin "sorted") (rSortM X.w) := by
  intro pins s σ H xs us Q inv rs hyp
  obtain ⟨a, L, rfl, ha, q⟩ := hyp
  have R : SetM X.w s.heap a L := (inv.hok a _ ha).1
  rw [Vals.ref1 rs]
  have lay : ∀ {s' : Shared} {l : Addr} {out : Array Value} {c : Nat} {zs : List V}, (∀ b o, s.heap.get? b = some o → s'.heap.get? b = some o) → s'.gens = s.gens → s'.os = s.os → s.heap.objs.size ≤ l → s'.heap.get? l = some (seqObj "list" out c) → Vals zs out.toList → zs.length ≤ sizeLine →
      Inv X pins σ (upd H l (.lst zs)) s' ∧ H l = none := by
    intro s' l out c zs kp g os up get rv hl
    have hn : H l = none := inv.hok.fresh up
    refine ⟨?_, hn⟩
    have J : Inv X pins σ (upd H l (.lst zs)) { s with heap := s'.heap, gens := s'.gens, drawn := s'.drawn, toks := s'.toks } :=
      inv.call (ch := []) (Un.laid kp up hn) (inv.hok.laid kp up ⟨hl, out.toList, c, rv, get⟩) (by rw [g]; exact inv.bare) (fun _ z => nomatch z)
    obtain ⟨h1, h2, h3, h4, h5⟩ := s'
    obtain rfl : h5 = s.os := os
    exact J
  have small : L.length ≤ sizeLine := by
    obtain ⟨_, es, _, _, _, _, _, p⟩ := id R
    rw [p.len]
    exact fits_of_scanBound p.sz
  rcases q with ⟨zs, rfl, q⟩ | ⟨zs, rfl, q⟩
  · refine sorted_tx R (inv.ok.hd hc) fun s' l out c ys kp g os up get hs pm so => ?_
    obtain ⟨J, hn⟩ := lay kp g os up get (vals_of_strs hs) (by rw [List.length_map, pm.length_eq]; simpa using small)
    exact ⟨.ref l, _, J, rfl, q ys l pm so hn⟩
  · refine sorted_nm R (inv.ok.hd hc) fun s' l out c ys kp g os up get hs pm so => ?_
    obtain ⟨J, hn⟩ := lay kp g os up get (vals_of_ints hs) (by rw [List.length_map, pm.length_eq]; simpa using small)
    exact ⟨.ref l, _, J, rfl, q ys l pm so hn⟩
end
end SM
namespace DL
open PySem L2 PyProof.Rows
/-! ### sorted -/
section
variable {X : Cx} {b : Bg} {K : PySem.W.Frag}
theorem repL_strs {G : Hp} : ∀ {zs : List Str} {vs : List V}, RepL K G (zs.map D.str) vs → vs = zs.map V.str
  | [], vs, h => h
  | z :: zs, vs, ⟨v, r, e, hv, hr⟩ => by
    subst e
    cases hv
    rw [repL_strs hr]
    rfl
theorem repL_ints {G : Hp} : ∀ {zs : List Int} {vs : List V}, RepL K G (zs.map D.int) vs → vs = zs.map V.int
  | [], vs, h => h
  | z :: zs, vs, ⟨v, r, e, hv, hr⟩ => by
    subst e
    cases hv
    rw [repL_ints hr]
    rfl
theorem repL_strs' {G : Hp} (zs : List Str) : RepL K G (zs.map D.str) (zs.map V.str) := repL_map (f := D.str) (g := V.str) (fun _ => rfl) zs
theorem repL_ints' {G : Hp} (zs : List Int) : RepL K G (zs.map D.int) (zs.map V.int) := repL_map (f := D.int) (g := V.int) (fun _ => rfl) zs
theorem repK_keys {G : Hp} : ∀ {kvs : List (Key × D)} {vs : List (Key × V)}, RepK K G kvs vs → vs.map (·.1) = kvs.map (·.1)
  | [], vs, h => by rw [show vs = [] from h]; rfl
  | (k, d) :: kvs, vs, ⟨v, r, e, hv, hr⟩ => by
    subst e
    rw [List.map_cons, List.map_cons, repK_keys hr]
/-- the numbers in order, the texts in order -/
def ordI (ns : List Int) (P : R → Prop) : Prop := ∀ ys : List Int, ys.Perm ns → ys.Pairwise (· ≤ ·) → P (.ow (.lst (ys.map .int)))
def ordS (zs : List Str) (P : R → Prop) : Prop := ∀ ys : List Str, ys.Perm zs → sortedS ys = true → P (.ow (.lst (ys.map .str)))
/-- sorted(xs) of a list of numbers, of texts; of a dict with such keys -/
def fSorted (d : D) (P : R → Prop) : Prop := match d with
  | .lst xs => (∃ ns : List Int, xs = ns.map .int ∧ ordI ns P) ∨ (∃ zs : List Str, xs = zs.map .str ∧ zs.length < 64 ∧ ordS zs P)
  | .dk kvs => (∃ ns : List Int, kvs.map (·.1) = ns.map Sum.inl ∧ ns.length < 64 ∧ ordI ns P) ∨ (∃ zs : List Str, kvs.map (·.1) = zs.map Sum.inr ∧ zs.length < 64 ∧ ordS zs P)
  | _ => False
theorem lc_or {r r' : List V → Hp → VK → Prop} {f : D → (R → Prop) → Prop} (h : LC K r f) : LC K (fun xs H Q => r xs H Q ∨ r' xs H Q) f := fun b L G0 H0 G H σ e d x P Q g hx hf k => .inl (h b L G0 H0 G H σ e d x P Q g hx hf k)
def rSrt (K : PySem.W.Frag) : List V → Hp → VK → Prop := fun xs H Q => ((rSortedI K xs H Q ∨ rSortedS K xs H Q) ∨
  (fun xs H Q => ∃ (a : Addr) (kvs : List (Key × V)) (ks : List Str), xs = [.ref a] ∧ Rd H a (.dK kvs) ∧ kvs.map (·.1) = ks.map Sum.inr ∧ ks.length < 64 ∧ ∀ ys p, ys.Perm ks → sortedS ys = true → H p = none → Q (.ref p) (upd H p (.lst (ys.map V.str)))) xs H Q) ∨
  (fun xs H Q => ∃ (a : Addr) (kvs : List (Key × V)) (ks : List Int), xs = [.ref a] ∧ Rd H a (.dK kvs) ∧ kvs.map (·.1) = ks.map Sum.inl ∧ ks.length < 64 ∧ ∀ (ys : List Int) (p : Addr), ys.Perm ks → ys.Pairwise (· ≤ ·) → H p = none → Q (.ref p) (upd H p (.lst (ys.map V.int)))) xs H Q
theorem cr_srt (hc : X.calm = true) : CallR X (.builtin "sorted") (rSrt X.K) := callR_or (callR_or (callR_or cr_sortedI cr_sortedS) (call_sortedD hc)) (call_sortedDI hc)
theorem lc_sorted : LC K (rSrt K) fSorted := by
  intro b L G0 H0 G H σ e d x P Q g h hf k
  unfold fSorted at hf
  split at hf
  · obtain ⟨a, vs, rfl, ha, hr⟩ := h
    rcases hf with ⟨ns, rfl, q⟩ | ⟨zs, rfl, hl, q⟩
    · rw [repL_ints hr] at ha
      exact .inl (.inl (.inl ⟨a, ns, rfl, SqL.of ha, fun ys p pm so np => g.newL (repL_ints' ys) (q ys pm so) k p np⟩))
    · rw [repL_strs hr] at ha
      exact .inl (.inl (.inr ⟨a, zs, rfl, SqL.of ha, hl, fun ys p pm so np => g.newL (repL_strs' ys) (q ys pm so) k p np⟩))
  · obtain ⟨a, vs, rfl, ha, hr⟩ := h
    have kk := repK_keys hr
    rcases hf with ⟨ns, e, hl, q⟩ | ⟨zs, e, hl, q⟩
    · exact .inr ⟨a, vs, ns, rfl, ha, kk.trans e, hl, fun ys p pm so np => g.newL (repL_ints' ys) (q ys pm so) k p np⟩
    · exact .inl (.inr ⟨a, vs, zs, rfl, ha, kk.trans e, hl, fun ys p pm so np => g.newL (repL_strs' ys) (q ys pm so) k p np⟩)
  · exact hf.elim
theorem d_sorted {a : Expr} {u : DE} {p pos : Pos} (hm : X.mg "sorted" = none) (h1 : PD X b a u) (hc : X.calm = true := by rfl) (hg : Gl X "sorted" := by rfl) (hs : starEach (a :: []) X.env = (false, eval a X.env) :: starEach [] X.env := by rfl) (hpl : (backTo pos (starEach [] X.env)).any (·.1) = false := by rfl) :
    PD X b (.Call (.Name "sorted" p) [a] [] pos) (uB fSorted u) := d_b1 (cr_srt hc) lc_sorted hm (by decide +kernel) h1 hg (hs := hs) (hpl := hpl)
/-! ### sorted(set(xs)) -/
def fSortSet (d : D) (P : R → Prop) : Prop := ∃ xs, (d = .lst xs ∨ d = .tup xs) ∧
  ((∃ ns : List Int, xs = ns.map .int ∧ ns.length ≤ 1000 ∧ ∀ ys : List Int, ys.Pairwise (· ≤ ·) → ys.Nodup → (∀ y, y ∈ ys ↔ y ∈ ns) → P (.ow (.lst (ys.map .int)))) ∨
   (∃ zs : List Str, xs = zs.map .str ∧ zs.length ≤ 1000 ∧ ∀ ys : List Str, sortedS ys = true → ys.Nodup → (∀ y, y ∈ ys ↔ y ∈ zs) → P (.ow (.lst (ys.map .str)))))
theorem all_inr : ∀ {L : List Key} {zs : List Str}, (∀ k, k ∈ L → k ∈ zs.map (Sum.inr : Str → Key)) → ∃ ys : List Str, L = ys.map Sum.inr
  | [], _, _ => ⟨[], rfl⟩
  | k :: L, zs, h => by
    obtain ⟨z, _, rfl⟩ := List.mem_map.mp (h k List.mem_cons_self)
    obtain ⟨ys, rfl⟩ := all_inr (L := L) fun j hj => h j (List.mem_cons_of_mem _ hj)
    exact ⟨z :: ys, rfl⟩
theorem all_inl : ∀ {L : List Key} {zs : List Int}, (∀ k, k ∈ L → k ∈ zs.map (Sum.inl : Int → Key)) → ∃ ys : List Int, L = ys.map Sum.inl
  | [], _, _ => ⟨[], rfl⟩
  | k :: L, zs, h => by
    obtain ⟨z, _, rfl⟩ := List.mem_map.mp (h k List.mem_cons_self)
    obtain ⟨ys, rfl⟩ := all_inl (L := L) fun j hj => h j (List.mem_cons_of_mem _ hj)
    exact ⟨z :: ys, rfl⟩
theorem few_scan {n : Nat} (h : n ≤ 1000) : n + 1 < scanBound := Nat.lt_of_le_of_lt (Nat.succ_le_succ h) (by decide)
theorem d_sortSet {a : Expr} {u : DE} {p p2 q pos : Pos} (hm : X.mg "sorted" = none) (hm2 : X.mg "set" = none) (h1 : PD X b a u) (hc : X.calm = true := by rfl) (hg : Gl X "sorted" := by rfl) (hg2 : Gl X "set" := by rfl)
    (hs : starEach (a :: []) X.env = (false, eval a X.env) :: starEach [] X.env := by rfl) (hpl : (backTo q (starEach [] X.env)).any (·.1) = false := by rfl)
    (hs2 : starEach (.Call (.Name "set" p2) [a] [] q :: []) X.env = (false, eval (.Call (.Name "set" p2) [a] [] q) X.env) :: starEach [] X.env := by rfl) (hpl2 : (backTo pos (starEach [] X.env)).any (·.1) = false := by rfl) :
    PD X b (.Call (.Name "sorted" p) [.Call (.Name "set" p2) [a] [] q] [] pos) (uB fSortSet u) := by
  obtain ⟨t, pe, l⟩ := h1
  refine ⟨_, pe_callB (SM.cr_sortM hc) hg hm (by decide +kernel) (pa_cons (pe_callTy (SM.cr_setM hc) hg2 hm2 (by decide +kernel) (pa_cons pe pa_nil hs) (by decide) (by decide) hs hpl) pa_nil hs2) (by decide) (by decide) hs2 hpl2, ?_⟩
  intro L G0 H0 G H σ e P Q g hu k
  refine l L G0 H0 G H σ e _ _ g hu fun v r G1 H1 s1 hr q => ?_
  have g1 := g.step s1
  have tp := hr.top g1
  obtain ⟨xs, hd, q⟩ := q
  have key : ∃ (l : Addr) (vs : List V), v = .ref l ∧ (SqL X.K H1 l vs ∨ SqT X.K H1 l vs) ∧ RepL X.K G1 xs vs := by
    rcases hd with e | e
    · rw [e] at tp
      obtain ⟨l, vs, rfl, ha, hr⟩ := tp
      exact ⟨l, vs, rfl, .inl (SqL.of ha), hr⟩
    · rw [e] at tp
      obtain ⟨l, vs, rfl, ha, hr⟩ := tp
      exact ⟨l, vs, rfl, .inr ha, hr⟩
  obtain ⟨l, vs, rfl, hl, hrep⟩ := key
  have back : ∀ {p : Addr} {o : HO}, H1 p = none → Stp b [] G1 H1 (upd G1 p o) (upd H1 p o) := fun np => Stp.laid g1.ex np
  rcases q with ⟨ns, rfl, hn, q⟩ | ⟨zs, rfl, hn, q⟩
  · rw [repL_ints hrep] at hl
    have ev : (ns.map Sum.inl).map kV = ns.map V.int := by rw [List.map_map]; rfl
    refine ⟨l, ns.map Sum.inl, rfl, by rw [ev]; exact hl, by rw [List.length_map]; exact few_scan hn, fun p np => ?_⟩
    obtain ⟨ds, eds⟩ := all_inl (L := SM.dist (ns.map Sum.inl)) (zs := ns) fun k hk => SM.mem_dist.mp hk
    refine ⟨p, _, rfl, upd_same, .inr ⟨ds, eds, fun ys p2 pm so np2 => ?_⟩⟩
    have nd : ds.Nodup := by
      have := SM.nodup_dist (ns.map (Sum.inl : Int → Key))
      rw [eds] at this
      exact List.Pairwise.of_map _ (fun a b h e => h (congrArg _ e)) this
    have mm : ∀ y, y ∈ ys ↔ y ∈ ns := fun y => by
      rw [pm.mem_iff]
      have := SM.mem_dist (ks := ns.map (Sum.inl : Int → Key)) (j := Sum.inl y)
      rw [eds] at this
      simpa using this
    refine (g1.step (back np)).newL (repL_ints' ys) (q ys so (pm.nodup_iff.mpr nd) mm) (fun v r G2 H2 s2 hr2 p2 => ?_) p2 np2
    exact k v r G2 H2 ((s1.trans (back np)).trans s2) (hr2.back fun a hb z => s1.back a hb ((back np).back a hb z)) p2
  · rw [repL_strs hrep] at hl
    have ev : (zs.map Sum.inr).map kV = zs.map V.str := by rw [List.map_map]; rfl
    refine ⟨l, zs.map Sum.inr, rfl, by rw [ev]; exact hl, by rw [List.length_map]; exact few_scan hn, fun p np => ?_⟩
    obtain ⟨ds, eds⟩ := all_inr (L := SM.dist (zs.map Sum.inr)) (zs := zs) fun k hk => SM.mem_dist.mp hk
    refine ⟨p, _, rfl, upd_same, .inl ⟨ds, eds, fun ys p2 pm so np2 => ?_⟩⟩
    have nd : ds.Nodup := by
      have := SM.nodup_dist (zs.map (Sum.inr : Str → Key))
      rw [eds] at this
      exact List.Pairwise.of_map _ (fun a b h e => h (congrArg _ e)) this
    have mm : ∀ y, y ∈ ys ↔ y ∈ zs := fun y => by
      rw [pm.mem_iff]
      have := SM.mem_dist (ks := zs.map (Sum.inr : Str → Key)) (j := Sum.inr y)
      rw [eds] at this
      simpa using this
    refine (g1.step (back np)).newL (repL_strs' ys) (q ys so (pm.nodup_iff.mpr nd) mm) (fun v r G2 H2 s2 hr2 p2 => ?_) p2 np2
    exact k v r G2 H2 ((s1.trans (back np)).trans s2) (hr2.back fun a hb z => s1.back a hb ((back np).back a hb z)) p2
end
end DL
namespace DL
open PySem L2 PyProof.Rows
/-! ### dicts: keys are numbers or texts -/
def kD : Key → D
  | .inl i => .int i
  | .inr z => .str z
def keyD : D → Option Key
  | .int i => some (.inl i)
  | .str z => some (.inr z)
  | _ => none
def valD (kvs : List (Key × D)) (k : Key) : Option D := (kvs.find? fun kv => decide (kv.1 = k)).map (·.2)
def putD (kvs : List (Key × D)) (k : Key) (d : D) : List (Key × D) := if (kvs.any fun kv => decide (kv.1 = k)) = true then kvs.map (fun kv => if kv.1 = k then (kv.1, d) else kv) else kvs ++ [(k, d)]
section
variable {X : Cx} {b : Bg} {K : PySem.W.Frag}
theorem keyD_top {G H : Hp} {d : D} {k : Key} {v : V} (h : keyD d = some k) (t : Top K G H d v) : v = kV k := by
  cases d <;> cases h <;> cases t <;> rfl
theorem RepK.get {G : Hp} {kvs : List (Key × D)} {vs : List (Key × V)} (h : RepK K G kvs vs) {k : Key} : (valD kvs k = none ∧ valV vs k = none) ∨ ∃ d v, valD kvs k = some d ∧ valV vs k = some v ∧ Rep K G d v := by
  induction kvs generalizing vs with
  | nil => rw [show vs = [] from h]; exact .inl ⟨rfl, rfl⟩
  | cons p kvs ih =>
    obtain ⟨k1, d⟩ := p
    obtain ⟨v, r, rfl, hv, hr⟩ := h
    by_cases e : k1 = k
    · subst e
      exact .inr ⟨d, v, by simp [valD], by simp [valV], hv⟩
    · have e1 : valD ((k1, d) :: kvs) k = valD kvs k := by simp [valD, List.find?_cons, e]
      have e2 : valV ((k1, v) :: r) k = valV r k := by simp [valV, List.find?_cons, e]
      rw [e1, e2]
      exact ih hr
theorem RepK.any {G : Hp} {kvs : List (Key × D)} {vs : List (Key × V)} (h : RepK K G kvs vs) (k : Key) : (vs.any fun kv => decide (kv.1 = k)) = kvs.any fun kv => decide (kv.1 = k) := by
  induction kvs generalizing vs with
  | nil => rw [show vs = [] from h]; rfl
  | cons p kvs ih =>
    obtain ⟨k1, d⟩ := p
    obtain ⟨v, r, rfl, hv, hr⟩ := h
    rw [List.any_cons, List.any_cons, ih hr]
theorem RepK.map_put {G : Hp} {kvs : List (Key × D)} {vs : List (Key × V)} (h : RepK K G kvs vs) (k : Key) {d : D} {v : V} (hd : Rep K G d v) :
    RepK K G (kvs.map fun kv => if kv.1 = k then (kv.1, d) else kv) (vs.map fun kv => if kv.1 = k then (kv.1, v) else kv) := by
  induction kvs generalizing vs with
  | nil => rw [show vs = [] from h]; rfl
  | cons p kvs ih =>
    obtain ⟨k1, d1⟩ := p
    obtain ⟨v1, r, rfl, hv, hr⟩ := h
    rw [List.map_cons, List.map_cons]
    by_cases e : k1 = k
    · rw [if_pos e, if_pos e]
      exact ⟨_, _, rfl, hd, ih hr⟩
    · rw [if_neg e, if_neg e]
      exact ⟨_, _, rfl, hv, ih hr⟩
theorem RepK.snoc {G : Hp} {kvs : List (Key × D)} {vs : List (Key × V)} (h : RepK K G kvs vs) (k : Key) {d : D} {v : V} (hd : Rep K G d v) : RepK K G (kvs ++ [(k, d)]) (vs ++ [(k, v)]) := by
  induction kvs generalizing vs with
  | nil => rw [show vs = [] from h]; exact ⟨v, [], rfl, hd, rfl⟩
  | cons p kvs ih =>
    obtain ⟨k1, d1⟩ := p
    obtain ⟨v1, r, rfl, hv, hr⟩ := h
    exact ⟨v1, _, rfl, hv, ih hr⟩
theorem RepK.put {G : Hp} {kvs : List (Key × D)} {vs : List (Key × V)} (h : RepK K G kvs vs) (k : Key) {d : D} {v : V} (hd : Rep K G d v) : RepK K G (putD kvs k d) (putK vs k v) := by
  unfold putD putK
  rw [h.any k]
  split
  · exact h.map_put k hd
  · exact h.snoc k hd
theorem RepK.length {G : Hp} {kvs : List (Key × D)} {vs : List (Key × V)} (h : RepK K G kvs vs) : vs.length = kvs.length := by
  have := congrArg List.length (repK_keys h)
  rwa [List.length_map, List.length_map] at this
/-- {} -/
def uDict0 : DE := fun _ P => P (.ow (.dk []))
theorem d_dict0 {pos : Pos} : PD X b (.Dict [] [] pos) uDict0 := by
  refine ⟨_, pe_dnewK, ?_⟩
  intro L G0 H0 G H σ e P Q g hu k
  exact g.newK (xs := []) rfl hu k
/-- d[k] -/
def fDGet (d i : D) (P : R → Prop) : Prop := ∃ kvs k v, d = .dk kvs ∧ keyD i = some k ∧ valD kvs k = some v ∧ P (.sh v)
theorem d_dget {o i : Expr} {u1 u2 : DE} {pos : Pos} (hU : X.A.units + 1 < cLine) (h1 : PD X b o u1) (h2 : PD X b i u2) (hs : NoSl i := by intro _ _; rfl) : PD X b (.Subscript o i pos) (uBin fDGet u1 u2) := by
  obtain ⟨t1, p1, l1⟩ := h1
  obtain ⟨t2, p2, l2⟩ := h2
  refine ⟨_, pe_dget hU p1 p2 hs, ?_⟩
  intro L G0 H0 G H σ e P Q g hu k
  refine l1 L G0 H0 G H σ e _ _ g hu fun v1 r1 G1 H1 s1 hr1 q1 => ?_
  have g1 := g.step s1
  refine l2 L G0 H0 G1 H1 σ e _ _ g1 q1 fun v2 r2 G2 H2 s2 hr2 q2 => ?_
  have g2 := g1.step s2
  obtain ⟨kvs, kk, d, e1, e2, e3, hp⟩ := q2
  have t1 := (hr1.step s2).top g2
  have t2 := hr2.top g2
  rw [e1] at t1
  obtain ⟨a, vs, rfl, ha, hr⟩ := t1
  obtain rfl := keyD_top e2 t2
  rcases hr.get (k := kk) with ⟨z, _⟩ | ⟨d', v, z1, z2, z3⟩
  · rw [e3] at z; cases z
  · rw [e3] at z1
    cases z1
    exact ⟨a, v, rfl, .inl ⟨vs, kk, ha, rfl, z2.symm⟩, k v (.sh d) G2 H2 (s1.trans s2) z3 hp⟩
/-- k in d, k not in d -/
def fDIn (neg : Bool) (i d : D) (P : R → Prop) : Prop := ∃ kvs k, d = .dk kvs ∧ keyD i = some k ∧ P (.sh (.bl (if neg then (valD kvs k).isNone else (valD kvs k).isSome)))
theorem din_core {t1 t2 : TE} {u1 u2 : DE} (l1 : LE K b t1 u1) (l2 : LE K b t2 u2) (neg : Bool) : LE K b (fun σ H Q => t1 σ H fun y H1 => t2 σ H1 fun x H2 => ∃ a o, x = .ref a ∧ DGet H2 a y o ∧ Q (.bl (if neg then !o.isSome else o.isSome)) H2) (uBin (fDIn neg) u1 u2) := by
  intro L G0 H0 G H σ e P Q g hu k
  refine l1 L G0 H0 G H σ e _ _ g hu fun v1 r1 G1 H1 s1 hr1 q1 => ?_
  have g1 := g.step s1
  refine l2 L G0 H0 G1 H1 σ e _ _ g1 q1 fun v2 r2 G2 H2 s2 hr2 q2 => ?_
  have g2 := g1.step s2
  obtain ⟨kvs, kk, e1, e2, hp⟩ := q2
  have t1 := (hr1.step s2).top g2
  have t2 := hr2.top g2
  rw [e1] at t2
  obtain ⟨a, vs, rfl, ha, hr⟩ := t2
  obtain rfl := keyD_top e2 t1
  refine ⟨a, valV vs kk, rfl, .inl ⟨vs, kk, ha, rfl, rfl⟩, k _ (.sh _) G2 H2 (s1.trans s2) ?_ hp⟩
  rcases hr.get (k := kk) with ⟨z1, z2⟩ | ⟨d', v, z1, z2, z3⟩ <;> rw [z1, z2] <;> cases neg <;> rfl
theorem d_din {a c : Expr} {u1 u2 : DE} {pos : Pos} (hU : X.A.units + 1 < cLine) (h1 : PD X b a u1) (h2 : PD X b c u2) (hm : behindInMarks .In c = false := by with_unfolding_all rfl) : PD X b (.Compare a [.In] [c] pos) (uBin (fDIn false) u1 u2) := by
  obtain ⟨t1, p1, l1⟩ := h1
  obtain ⟨t2, p2, l2⟩ := h2
  exact ⟨_, pe_cmp (pc_din hU p1 p2) hm, din_core l1 l2 false⟩
theorem d_dnotin {a c : Expr} {u1 u2 : DE} {pos : Pos} (hU : X.A.units + 1 < cLine) (h1 : PD X b a u1) (h2 : PD X b c u2) (hm : behindInMarks .NotIn c = false := by with_unfolding_all rfl) : PD X b (.Compare a [.NotIn] [c] pos) (uBin (fDIn true) u1 u2) := by
  obtain ⟨t1, p1, l1⟩ := h1
  obtain ⟨t2, p2, l2⟩ := h2
  exact ⟨_, pe_cmp (pc_dnotin hU p1 p2) hm, din_core l1 l2 true⟩
end
end DL
namespace DL
open PySem L2 PyProof.Rows
/-! ### walks of dicts: the dict is locked while it is walked -/
section
variable {X : Cx} {b : Bg} {K : PySem.W.Frag}
theorem Good.lock {L : Lk} {G0 H0 G H : Hp} {σ : L2.St} {e : List Sl} {a : Addr} {vs : List (Key × V)} (g : Good K b L G0 H0 G H σ e) (hG : G a = some (.dK vs)) (hH : H a = some (.dK vs)) (od : Obj) :
    Good K b.q ((a, od, .dK vs) :: L) G0 H0 G (L2.upd H a (.frz od (.dK vs))) σ e where
  stp := by
    refine ⟨g.stp.g, fun c o hb nm h => ?_, g.stp.new, fun c o h => ?_, fun c hc h => ?_⟩
    · by_cases z : c = a
      · subst z
        rcases g.stp.fr c o hb nm h with q | ⟨od', m, q⟩
        · rw [hH] at q
          cases q
          exact .inr ⟨od, List.mem_cons_self, upd_same⟩
        · rw [hH] at q; cases q
      · rw [upd_ne z]
        exact (g.stp.fr c o hb nm h).imp id fun ⟨od', m, q⟩ => ⟨od', List.mem_cons_of_mem _ m, q⟩
    · by_cases z : c = a
      · subst z
        rw [hG] at h
        cases h
        exact .inr (.inl ⟨vs, od, rfl, upd_same⟩)
      · rw [upd_ne z]
        exact g.stp.ex c o h
    · obtain ⟨h1, s, ns, i, n, z, h2, h3⟩ := g.stp.bag c hc h
      have nc : c ≠ a := fun z => by rw [z, hG] at h1; cases h1
      exact ⟨h1, s, ns, i, n, z, by rw [upd_ne nc]; exact h2, h3⟩
  slot := fun i x hx => by
    have q := g.slot i x hx
    cases x with
    | un => trivial
    | sh d => exact q
    | own t o =>
      obtain ⟨c, ho, h1, h2, h3, h4, h5, h6⟩ := q
      have nc : c ≠ a := fun z => by rw [z, hG] at h4; cases h4
      exact ⟨c, ho, h1, h2, h3, h4, by rw [upd_ne nc]; exact h5, h6⟩
    | bag => exact q
  inj := g.inj
  bag := fun c hc => by
    obtain ⟨h1, s, ns, i, n, z, h2, h3⟩ := g.bag c hc
    have nc : c ≠ a := fun z => by rw [z, hG] at h1; cases h1
    exact ⟨h1, s, ns, i, n, z, by rw [upd_ne nc]; exact h2, h3⟩
  lk := fun c od' u m => by
    rcases List.mem_cons.mp m with z | z
    · cases z; exact upd_same
    · have q := g.lk c od' u z
      rw [upd_ne (fun z => by rw [z, hH] at q; cases q)]
      exact q
  len := g.len
  xl := xl_q
theorem Good.unlock {L : Lk} {G0 H0 G H : Hp} {σ : L2.St} {e : List Sl} {a : Addr} {od : Obj} {vs : List (Key × V)} (x : XL K b L G0 H0) (g : Good K b.q ((a, od, .dK vs) :: L) G0 H0 G H σ e) (hG : G a = some (.dK vs)) (nl : ∀ od' u, (a, od', u) ∉ L) (h0 : ∀ o, H0 a = some o → o = .dK vs) :
    Good K b L G0 H0 G (L2.upd H a (.dK vs)) σ e where
  stp := by
    refine ⟨g.stp.g, fun c o hb nm h => ?_, g.stp.new, fun c o h => ?_, fun c hc h => ?_⟩
    · by_cases z : c = a
      · subst z
        rw [h0 o h]
        exact .inl upd_same
      · rw [upd_ne z]
        refine (g.stp.fr c o hb nm h).imp id fun ⟨od', m, q⟩ => ⟨od', ?_, q⟩
        rcases List.mem_cons.mp m with w | w
        · cases w; exact absurd rfl z
        · exact w
    · by_cases z : c = a
      · subst z
        rw [hG] at h
        cases h
        exact .inl upd_same
      · rw [upd_ne z]
        exact g.stp.ex c o h
    · obtain ⟨h1, s, ns, i, n, z, h2, h3⟩ := g.stp.bag c hc h
      have nc : c ≠ a := fun z => by rw [z, hG] at h1; cases h1
      exact ⟨h1, s, ns, i, n, z, by rw [upd_ne nc]; exact h2, h3⟩
  slot := fun i x hx => by
    have q := g.slot i x hx
    cases x with
    | un => trivial
    | sh d => exact q
    | own t o =>
      obtain ⟨c, ho, h1, h2, h3, h4, h5, h6⟩ := q
      have nc : c ≠ a := fun z => by rw [z, hG] at h4; cases h4
      exact ⟨c, ho, h1, h2, h3, h4, by rw [upd_ne nc]; exact h5, h6⟩
    | bag => exact q
  inj := g.inj
  bag := fun c hc => by
    obtain ⟨h1, s, ns, i, n, z, h2, h3⟩ := g.bag c hc
    have nc : c ≠ a := fun z => by rw [z, hG] at h1; cases h1
    exact ⟨h1, s, ns, i, n, z, by rw [upd_ne nc]; exact h2, h3⟩
  lk := fun c od' u m => by
    rw [upd_ne (fun z => nl od' u (by rw [← z]; exact m))]
    exact g.lk c od' u (List.mem_cons_of_mem _ m)
  len := g.len
  xl := x
theorem RepR.unlock {Hs G H : Hp} {a : Addr} {u : HO} {r : R} {v : V} (h : RepR K b Hs [] [] G H r v) (hG : G a ≠ none) : RepR K b Hs [] [] G (L2.upd H a u) r v := by
  cases r with
  | sh d => exact h
  | ow o =>
    obtain ⟨c, ho, h1, h2, h3, h4, h5, h6⟩ := h
    have nc : c ≠ a := fun z => hG (by rw [← z]; exact h4)
    exact ⟨c, ho, h1, h2, h3, h4, by rw [upd_ne nc]; exact h5, h6⟩
  | al i o => exact h
/-- an expression that is only looked at: it changes nothing -/
def LV (K : PySem.W.Frag) (b : Bg) (t : TE) (ud : List Sl → D → Prop) : Prop := ∀ (L : Lk) (G0 H0 G H : Hp) (σ : L2.St) (e : List Sl) (d : D), Good K b L G0 H0 G H σ e → ud e d → ∃ v, Rep K G d v ∧ ∀ (L' : Lk) (G0' H0' H' : Hp) (Q : VK), Good0 K b.a L' G0' H0' G H' σ e → Q v H' → t σ H' Q
structure PV (X : Cx) (b : Bg) (a : Expr) (ud : List Sl → D → Prop) : Prop where
  ex : ∃ t, PE X a t ∧ LV X.K b t ud
def vVar (i : Nat) : List Sl → D → Prop := fun e d => nth e i = .sh d
theorem pv_var (i : Nat) {x : Str} {p : Pos} (hN : X.N[i]? = some x := by rfl) (hv : Vis X.env.scope x := by first | exact Or.inl rfl | exact Or.inr (Or.inl rfl) | exact Or.inr (Or.inr rfl))
    (hd : (x == ("__debug__" : Str)) = false := by decide) (hcd : (x == ("__classdict__" : Str)) = false := by decide) : PV X b (.Name x p) (vVar i) := by
  refine ⟨_, pe_var hN hv hd hcd, ?_⟩
  intro L G0 H0 G H σ e d g hu
  obtain ⟨v, hv, hd⟩ := g.slot i _ (nth_get hu (by simp))
  exact ⟨v, hd, fun L' G0' H0' H' Q g' q => ⟨v, hv, q⟩⟩
/-- what a for loop wants once its walk is there -/
theorem for_core {L : Lk} {G0 H0 G H G1 H1 : Hp} {σ : L2.St} {e : List Sl} {DD : DEnds} {EE : Ends} {J : It} {xs : List D} {g : TG} {js : List Nat} {ug : DG} {tb : TS} {ub : DS} (hg : LG K b js g ug) (hb : LS K b tb ub) (gd : Good K b L G0 H0 G H σ e) (ok : EndsOk K b L G0 H0 DD EE) (s1 : Stp b [] G H G1 H1) (hJ : JOk K b L G1 J xs)
    (q : ∃ W : Nat → List Sl → Prop, W 0 e ∧ (∀ i x e', xs[i]? = some x → W i e' → ug x e' fun e2 => ub { DD with nx := W (i + 1), ct := W (i + 1), bk := DD.nx } e2) ∧ ∀ e', W xs.length e' → DD.nx e') : tFor (fun _ H R => R J H) g tb EE σ H1 := by
  obtain ⟨W, w0, hs, hd⟩ := q
  have g1 := gd.step s1
  have ok1 := ok.rebase g1.xl g1.stp
  refine ⟨fun i m σ H => m = xs.length - i ∧ i ≤ xs.length ∧ ∃ G e', Good K b L G1 H0 G H σ e' ∧ W i e', ⟨xs.length, by simp, Nat.zero_le _, G1, e, g1.rebase, w0⟩, ?_⟩
  rintro i m σ H ⟨rfl, hi, G, e', gg, w⟩
  obtain ⟨j1, j2⟩ := hJ G H gg.stp.g gg.ex gg.lk i
  by_cases c : i < xs.length
  · obtain ⟨go, y⟩ := j1 xs[i] (by simp [c])
    refine .inr ⟨go, fun σ' H' => ∃ G e', Good K b L G1 H0 G H' σ' e' ∧ W (i + 1) e', fun σ' H' ⟨G, e', g', w'⟩ => ⟨xs.length - (i + 1), by omega, rfl, by omega, G, e', g', w'⟩, fun v H' hy => ?_⟩
    obtain ⟨G', s', hx⟩ := y v H' hy
    have g' := gg.step s'
    refine hg L G1 H0 G' H' σ e' _ v _ _ g' hx (hs i xs[i] e' (by simp [c]) w) fun σ2 e2 g2 _ q2 => ?_
    exact hb L G1 H0 G' H' σ2 e2 { DD with nx := W (i + 1), ct := W (i + 1), bk := DD.nx } { EE with nx := fun σ' H' => ∃ G e', Good K b L G1 H0 G H' σ' e' ∧ W (i + 1) e', ct := fun σ' H' => ∃ G e', Good K b L G1 H0 G H' σ' e' ∧ W (i + 1) e', bk := EE.nx } g2
      ⟨fun G H σ e g h => ⟨G, e, g, h⟩, ok1.rt, ok1.nx, fun G H σ e g h => ⟨G, e, g, h⟩⟩ q2
  · have e1 : i = xs.length := by omega
    subst e1
    exact .inl ⟨j2 (Nat.le_refl _), ok1.nx G H σ e' gg (hd e' w)⟩
theorem repK_at {G : Hp} {kvs : List (Key × D)} {vs : List (Key × V)} (h : RepK K G kvs vs) {i : Nat} {k : Key} {d : D} (e : kvs[i]? = some (k, d)) : ∃ v, vs[i]? = some (k, v) ∧ Rep K G d v := by
  induction kvs generalizing vs i with
  | nil => cases e
  | cons p kvs ih =>
    obtain ⟨k1, d1⟩ := p
    obtain ⟨v1, r, rfl, hv, hr⟩ := h
    cases i with
    | zero => cases e; exact ⟨v1, rfl, hv⟩
    | succ i => exact ih hr e
theorem repK_mono {G G' : Hp} (s : Sub G G') {kvs : List (Key × D)} {vs : List (Key × V)} (h : RepK K G kvs vs) : RepK K G' kvs vs := RepK.mono s h
/-- the keys of a locked dict -/
theorem jok_keys {L : Lk} {G1 : Hp} {a : Addr} {od : Obj} {kvs : List (Key × D)} {vs : List (Key × V)} (m : (a, od, .dK vs) ∈ L) (hr : RepK K G1 kvs vs) : JOk K b L G1 (Itk a od vs) (kvs.map fun kv => kD kv.1) := fun G H sub ex lk i => by
  have fz := lk a od _ m
  refine ⟨fun x hx => ?_, fun hi => ⟨fz, by rw [List.length_map] at hi; rw [hr.length]; exact hi⟩⟩
  rw [List.getElem?_map] at hx
  cases e : kvs[i]? with
  | none => rw [e] at hx; cases hx
  | some p =>
    rw [e] at hx
    cases hx
    obtain ⟨k, d⟩ := p
    obtain ⟨v, hv, hd⟩ := repK_at hr e
    refine ⟨⟨fz, get_lt hv⟩, fun u H' hy => ?_⟩
    obtain ⟨rfl, k', v', h1, rfl⟩ := hy
    rw [hv] at h1
    cases h1
    refine ⟨G, Stp.refl ex, ?_⟩
    cases k <;> rfl
theorem Good.note {L : Lk} {G0 H0 G H : Hp} {σ : L2.St} {e : List Sl} {a : Addr} {od : Obj} {u : HO} (g : Good K b L G0 H0 G H σ e) (h : H a = some (.frz od u)) : Good K b.q ((a, od, u) :: L) G0 H0 G H σ e :=
  ⟨⟨⟨g.stp.g, fun c o hb nm h => (g.stp.fr c o hb nm h).imp id fun ⟨od', m, q⟩ => ⟨od', List.mem_cons_of_mem _ m, q⟩, g.stp.new, g.stp.ex, g.stp.bag⟩, g.slot, g.inj, g.bag, fun c od' u' m => by
    rcases List.mem_cons.mp m with z | z
    · cases z; exact h
    · exact g.lk c od' u' z, g.len⟩, xl_q⟩
theorem Good.unnote {L : Lk} {G0 H0 G H : Hp} {σ : L2.St} {e : List Sl} {a : Addr} {od : Obj} {u : HO} (x : XL K b L G0 H0) (g : Good K b.q ((a, od, u) :: L) G0 H0 G H σ e) (k : b.a ≠ some a → H0 a = some u → (a, od, u) ∈ L) : Good K b L G0 H0 G H σ e :=
  ⟨⟨⟨g.stp.g, fun c o hb nm h => (g.stp.fr c o hb nm h).imp id fun ⟨od', m, q⟩ => ⟨od', by
    rcases List.mem_cons.mp m with z | z
    · cases z; exact k hb h
    · exact z, q⟩, g.stp.new, g.stp.ex, g.stp.bag⟩, g.slot, g.inj, g.bag, fun c od' u' m => g.lk c od' u' (List.mem_cons_of_mem _ m), g.len⟩, x⟩
def uItK (ud : List Sl → D → Prop) : DI := fun e P => ∃ kvs, ud e (.dk kvs) ∧ P (kvs.map fun kv => kD kv.1)
theorem ls_forK {t : TE} {ud : List Sl → D → Prop} {g : TG} {js : List Nat} {ug : DG} {tb : TS} {ub : DS} (hv : LV K b t ud) (hg : LG K b.q js g ug) (hb : LS K b.q tb ub) : LS K b (fun EE σ H => tLock (tFor (iKeys t) g tb) EE σ H ∨ tFor (iKeys t) g tb EE σ H) (uFor (uItK ud) ug ub) := by
  intro L G0 H0 G H σ e DD EE gd ok hu
  obtain ⟨kvs, hud, q⟩ := hu
  obtain ⟨v, hrep, use⟩ := hv L G0 H0 G H σ e _ gd hud
  obtain ⟨a, vs, rfl, hG, hr⟩ := hrep
  have nba : b.a ≠ some a := fun z => by
    obtain ⟨h1, _⟩ := gd.bag a z
    rw [hG] at h1; cases h1
  have nm0 : NM G0 a := (nm_dk hG).back gd.stp.g
  rcases gd.ex.old a _ hG with hH | ⟨_, od, _, hH⟩
  · refine .inl ⟨a, .dK vs, hH, trivial, fun od => ?_⟩
    have gl := gd.lock hG hH od
    have nl : ∀ od' u, (a, od', u) ∉ L := fun od' u m => by
      have := gd.lk a od' u m
      rw [hH] at this; cases this
    have h0 : ∀ o, H0 a = some o → o = .dK vs := fun o h => by
      rcases gd.stp.fr a o nba nm0 h with z | ⟨od', m, _⟩
      · rw [hH] at z; exact (Option.some.inj z).symm
      · exact absurd m (nl _ _)
    have here : ∀ {G' H' : Hp} {σ' : L2.St} {e' : List Sl}, Good K b.q ((a, od, .dK vs) :: L) G H0 G' H' σ' e' → H' a = some (.frz od (.dK vs)) ∧ Good K b L G0 H0 G' (L2.upd H' a (.dK vs)) σ' e' ∧ G' a = some (.dK vs) := fun {G' H' σ' e'} g' =>
      ⟨g'.lk a od _ List.mem_cons_self, (Good.unlock (gd.xl.rebase gd.stp gd.ex) g' (g'.stp.g _ _ hG) nl h0).unbase gd.stp gd.xl, g'.stp.g _ _ hG⟩
    have glb := gl.rebase
    refine use _ _ _ _ _ gl.toGood0 ⟨a, od, rfl, .inl ⟨vs, upd_same, for_core hg hb glb ⟨?_, ?_, ?_, ?_⟩ (Stp.refl gl.ex) (jok_keys List.mem_cons_self hr) q⟩⟩
    · intro G' H' σ' e' g' h
      obtain ⟨h1, h2, _⟩ := here g'
      exact ⟨h1, ok.nx _ _ _ _ h2 h⟩
    · intro G' H' σ' e' v r g' hr h
      obtain ⟨h1, h2, h3⟩ := here g'
      exact ⟨h1, ok.rt _ _ _ _ _ _ h2 (hr.unlock (by rw [h3]; simp)) h⟩
    · intro G' H' σ' e' g' h
      obtain ⟨h1, h2, _⟩ := here g'
      exact ⟨h1, ok.bk _ _ _ _ h2 h⟩
    · intro G' H' σ' e' g' h
      obtain ⟨h1, h2, _⟩ := here g'
      exact ⟨h1, ok.ct _ _ _ _ h2 h⟩
  · refine .inr ?_
    have gl := gd.note hH
    have key : b.a ≠ some a → H0 a = some (.dK vs) → (a, od, HO.dK vs) ∈ L := fun nb h => by
      rcases gd.stp.fr a _ nb nm0 h with z | ⟨od', m, z⟩
      · rw [hH] at z; cases z
      · rw [hH] at z; cases z; exact m
    have ok' : EndsOk K b.q ((a, od, .dK vs) :: L) G0 H0 DD EE := ⟨fun G H σ e g h => ok.nx _ _ _ _ (Good.unnote gd.xl g key) h, fun G H σ e v r g hr h => ok.rt _ _ _ _ _ _ (Good.unnote gd.xl g key) hr h, fun G H σ e g h => ok.bk _ _ _ _ (Good.unnote gd.xl g key) h, fun G H σ e g h => ok.ct _ _ _ _ (Good.unnote gd.xl g key) h⟩
    exact use _ _ _ _ _ gl.toGood0 ⟨a, od, rfl, .inl ⟨vs, hH, for_core hg hb gl ok' (Stp.refl gl.ex) (jok_keys List.mem_cons_self hr) q⟩⟩
theorem ps_or {st : Stmt} {t u : TS} (h : PS X st t) (h' : PS X st u) : PS X st (fun EE σ H => t EE σ H ∨ u EE σ H) := ⟨fun pins s σ H EE I q => q.elim (h.run pins s σ H EE I) (h'.run pins s σ H EE I)⟩
theorem ds_forK {tg iter : Expr} {body : List Stmt} {ud : List Sl → D → Prop} {js : List Nat} {ug : DG} {ub : DS} {pos : Pos} (hi : PV X b iter ud) (hg : PDG X b.q tg js ug) (hb : PDSs X b.q body ub) (hp : PassesOwn (model X.prog X.w) X.A X.env X.xe := by exact PassesOwn.never) (hc : X.calm = true := by rfl)
    (hs : ∀ x, foldedSetIterable iter X.env x = pure x := by intro _; rfl) : PDS X b (.For tg iter body [] pos) (uFor (uItK ud) ug ub) := by
  obtain ⟨t, p1, l1⟩ := hi
  obtain ⟨tg, p2, l2⟩ := hg
  obtain ⟨tb, p3, l3⟩ := hb
  have ps := ps_for (pos := pos) hp hc (pi_keys p1) p2 p3 hs
  exact ⟨_, ps_or (ps_lock ps) ps, ls_forK l1 l2 l3⟩
end
end DL
namespace DL
open PySem L2 PyProof.Rows
/-! ### comprehensions over dicts; items, values -/
section
variable {X : Cx} {b : Bg} {K : PySem.W.Frag}
theorem lc_core {L : Lk} {G0 H0 G H G1 H1 : Hp} {σ : L2.St} {e : List Sl} {P : R → Prop} {Q : VK} {J : It} {xs : List D} {g : TG} {js : List Nat} {ug : DG} {tt : TT} {ut : DT} {te : TE} {ue : DE} {vs : List Nat} (hg : LG K b js g ug) (ht : LT K b tt ut) (he : LE K b te ue) (hj : ∀ j ∈ js, j ∈ vs)
    (gd : Good K b L G0 H0 G H σ e) (k : ∀ v r G' H', Stp b [] G H G' H' → RepR K b H σ e G' H' r v → P r → Q v H') (s1 : Stp b [] G H G1 H1) (hJ : JOk K b L G1 J xs)
    (q : ∃ W : Nat → List D → Prop, W 0 [] ∧ (∀ (i : Nat) x acc, xs[i]? = some x → W i acc → ug x (wipeE e vs) fun e2 => ut e2 fun c => if c = true then ue e2 (R.keep fun d => acc.length < 1000000 ∧ W (i + 1) (acc ++ [d])) else W (i + 1) acc) ∧ ∀ acc, W xs.length acc → P (.ow (.lst acc))) :
    tLc (fun _ H R => R J H) g tt te vs σ H1 Q := by
  obtain ⟨W, w0, hs, hd⟩ := q
  have g1 := gd.step s1
  intro Dl hD
  have nb : b.a ≠ some Dl := g1.nb hD
  have s0 : Stp b [] G1 H1 G1 (L2.upd H1 Dl (.lst [])) := Stp.made g1.ex hD
  refine ⟨fun i m H => m = xs.length - i ∧ i ≤ xs.length ∧ ∃ G acc va, Stp b [] G1 H1 G H ∧ G Dl = none ∧ H Dl = some (.lst va) ∧ RepL K G acc va ∧ W i acc,
    ⟨xs.length, by simp, Nat.zero_le _, G1, [], [], s0, g1.ex.none hD, upd_same, rfl, w0⟩, ?_⟩
  rintro i m H ⟨rfl, hi, G', acc, va, st, hgD, hHD, hra, w⟩
  have gg := (g1.step st).wipe vs
  obtain ⟨j1, j2⟩ := hJ G' H st.g st.ex gg.lk i
  by_cases c : i < xs.length
  · obtain ⟨go, y⟩ := j1 xs[i] (by simp [c])
    refine .inr ⟨go, fun H' => ∃ G acc va, Stp b [] G1 H1 G H' ∧ G Dl = none ∧ H' Dl = some (.lst va) ∧ RepL K G acc va ∧ W (i + 1) acc, fun H' q => ⟨xs.length - (i + 1), by omega, rfl, by omega, q⟩, fun v H2 hy => ?_⟩
    obtain ⟨G2, s2, hx⟩ := y v H2 hy
    have g2 := gg.step s2
    refine hg L G0 H0 G2 H2 _ _ _ v _ _ g2 hx (hs i xs[i] acc (by simp [c]) w) fun σ3 e3 g3 w3 q3 => ⟨?_, ?_⟩
    · rw [w3 vs hj, wipe_wipe]
    · refine ht L G0 H0 G2 H2 σ3 e3 _ _ g3 q3 fun c3 G4 H4 s4 q4 => ?_
      have g4 := g3.step s4
      have s14 := (st.trans s2).trans s4
      have d2 : G2 Dl = none := s2.new Dl nb (by rw [hHD]; simp) hgD
      have d4 : G4 Dl = none := s4.new Dl nb (by rw [s2.fr0 nb hHD]; simp) d2
      have h4 : H4 Dl = some (.lst va) := s4.fr0 nb (s2.fr0 nb hHD)
      cases c3 with
      | false => exact ⟨G4, acc, va, s14, d4, h4, (hra.mono s2.g).mono s4.g, q4⟩
      | true =>
        refine he L G0 H0 G4 H4 σ3 e3 _ _ g4 q4 fun v5 r5 G5 H5 s5 hr5 q5 => ?_
        obtain ⟨d, G6, s6, hd6, hl, q6⟩ := hr5.freeze s5 q5
        have d6 : G6 Dl = none := s6.new Dl nb (by rw [h4]; simp) d4
        have h6 : H5 Dl = some (.lst va) := s6.fr0 nb h4
        have ra : RepL K G6 acc va := ((hra.mono s2.g).mono s4.g).mono s6.g
        exact ⟨va, h6, by rw [ra.length]; exact lt_line hl, G6, acc ++ [d], va ++ [v5], (s14.trans s6).mut nb hD d6, d6, upd_same, ra.append (RepL.one hd6), q6⟩
  · have e1 : i = xs.length := by omega
    subst e1
    refine .inl ⟨j2 (Nat.le_refl _), ?_⟩
    exact k _ (.ow (.lst acc)) G' H (s1.trans st) ⟨Dl, _, rfl, nb, s1.back Dl nb hD, hgD, hHD, va, rfl, hra⟩ (hd acc w)

theorem RepR.unlock' {L : Lk} {Hs G0 H0 G H : Hp} {σ : L2.St} {e : List Sl} {a : Addr} {u : HO} {r : R} {v : V} (h : RepR K b Hs σ e G H r v) (hG : G a ≠ none) : RepR K b Hs σ e G (L2.upd H a u) r v := by
  cases r with
  | sh d => exact h
  | ow o =>
    obtain ⟨c, ho, h1, h2, h3, h4, h5, h6⟩ := h
    have nc : c ≠ a := fun z => hG (by rw [← z]; exact h4)
    exact ⟨c, ho, h1, h2, h3, h4, by rw [upd_ne nc]; exact h5, h6⟩
  | al i o => exact h
/-- a step under a lock, seen from without -/
theorem stp_unlock {G H G' H' : Hp} {a : Addr} {od : Obj} {vs : List (Key × V)} (s : Stp b [] G (L2.upd H a (.frz od (.dK vs))) G' H') (ex : Ex G H) (hG : G a = some (.dK vs)) (hH : H a = some (.dK vs)) (nb : b.a ≠ some a) : H' a = some (.frz od (.dK vs)) ∧ Stp b [] G H G' (L2.upd H' a (.dK vs)) := by
  have hf : H' a = some (.frz od (.dK vs)) := s.fr0 nb upd_same
  refine ⟨hf, s.g, fun c o hb nm h => .inl ?_, fun c hb h hg => s.new c hb ?_ hg, fun c o h => ?_, fun c hc h => ?_⟩
  · by_cases z : c = a
    · subst z
      rw [hH] at h; cases h
      exact upd_same
    · rw [upd_ne z]
      exact s.fr0 hb (by rw [upd_ne z]; exact h)
  · by_cases z : c = a
    · subst z; rw [upd_same]; simp
    · rw [upd_ne z]; exact h
  · by_cases z : c = a
    · subst z
      have := s.g _ _ hG
      rw [this] at h; cases h
      exact .inl upd_same
    · rw [upd_ne z]; exact s.ex c o h
  · have nc : c ≠ a := fun z => by
      obtain ⟨h1, _⟩ := h
      rw [z, hG] at h1; cases h1
    have hb' : BagOk G (L2.upd H a (.frz od (.dK vs))) c := by
      obtain ⟨h1, q, ns, i, n, z, h2, h3⟩ := h
      exact ⟨h1, q, ns, i, n, z, by rw [upd_ne nc]; exact h2, h3⟩
    obtain ⟨h1, q, ns, i, n, z, h2, h3⟩ := s.bag c hc hb'
    exact ⟨h1, q, ns, i, n, z, by rw [upd_ne nc]; exact h2, h3⟩
theorem le_lcK {t : TE} {ud : List Sl → D → Prop} {g : TG} {js : List Nat} {ug : DG} {tt : TT} {ut : DT} {te : TE} {ue : DE} {vs : List Nat} (hv : LV K b t ud) (hg : LG K b.q js g ug) (ht : LT K b.q tt ut) (he : LE K b.q te ue) (hj : ∀ j ∈ js, j ∈ vs) :
    LE K b (fun σ H Q => tLockE (tLc (iKeys t) g tt te vs) σ H Q ∨ tLc (iKeys t) g tt te vs σ H Q) (uLc (uItK ud) ug ut ue vs) := by
  intro L G0 H0 G H σ e P Q gd hu k
  obtain ⟨kvs, hud, q⟩ := hu
  obtain ⟨v, hrep, use⟩ := hv L G0 H0 G H σ e _ gd hud
  obtain ⟨a, ws, rfl, hG, hr⟩ := hrep
  have nba : b.a ≠ some a := fun z => by
    obtain ⟨h1, _⟩ := gd.bag a z
    rw [hG] at h1; cases h1
  rcases gd.ex.old a _ hG with hH | ⟨_, od, _, hH⟩
  · refine .inl ⟨a, .dK ws, hH, trivial, fun od => ?_⟩
    have gl := gd.lock hG hH od
    refine use _ _ _ _ _ gl.toGood0 ⟨a, od, rfl, .inl ⟨ws, upd_same, lc_core (Q := fun v H' => H' a = some (.frz od (.dK ws)) ∧ Q v (L2.upd H' a (.dK ws))) hg ht he hj gl (fun v r G' H' s hr hp => ?_) (Stp.refl gl.ex) (jok_keys List.mem_cons_self hr) q⟩⟩
    obtain ⟨h1, s'⟩ := stp_unlock s gd.ex hG hH nba
    refine ⟨h1, k v r G' _ s' ?_ hp⟩
    have hg' : G' a ≠ none := by rw [s.g _ _ hG]; simp
    refine (RepR.unlock' (L := L) (G0 := G0) (H0 := H0) hr hg').back fun c hb z => ?_
    by_cases w : c = a
    · subst w; rw [upd_same] at z; cases z
    · rw [upd_ne w] at z; exact z
  · have gl := gd.note hH
    exact .inr (use _ _ _ _ _ gl.toGood0 ⟨a, od, rfl, .inl ⟨ws, hH, lc_core (Q := Q) hg ht he hj gl k (Stp.refl gl.ex) (jok_keys List.mem_cons_self hr) q⟩⟩)
theorem pe_or {a : Expr} {t u : TE} (h : PE X a t) (h' : PE X a u) : PE X a (fun σ H Q => t σ H Q ∨ u σ H Q) := ⟨fun pins s σ H Q I q => q.elim (h.run pins s σ H Q I) (h'.run pins s σ H Q I)⟩
theorem d_lcK {elt tg iter : Expr} {ifs : List Expr} {scope : Scope} {own : List (Str × Nat)} {pos : Pos} {ud : List Sl → D → Prop} {js : List Nat} {ug : DG} {ut : DT} {ue : DE} (hN : X.N.Nodup) (ok : blkC X.N X.env.scope scope own = true) (hj : ∀ j ∈ js, j ∈ own.map (·.2)) (hi : PV X b iter ud)
    (hg : Blk X scope fun Y => PDG Y b.q tg js ug) (ht : Blk X scope fun Y => PDTs Y b.q ifs ut) (he : Blk X scope fun Y => PD Y b.q elt ue) (hc : X.calm = true := by rfl) (hs : ∀ x, foldedSetIterable iter X.env x = pure x := by intro _; rfl) :
    PD X b (.ListComp elt [⟨tg, iter, ifs, 0⟩] scope pos) (uLc (uItK ud) ug ut ue (own.map (·.2))) := by
  obtain ⟨t, p1, l1⟩ := hi
  obtain ⟨g, p2, l2⟩ := blk_g hg
  obtain ⟨tt, p3, l3⟩ := blk_t ht
  obtain ⟨te, p4, l4⟩ := blk_e he
  have pe := pe_lc (pos := pos) hc hN (pi_keys p1) (blkOk_by ok) p2 p3 p4 hs
  exact ⟨_, pe_or (pe_lock pe) pe, le_lcK l1 l2 l3 l4 hj⟩
end
end DL
namespace DL
open PySem L2 PyProof.Rows
section
variable {X : Cx} {b : Bg} {K : PySem.W.Frag}
theorem Good.ownK {L : Lk} {G0 H0 G H : Hp} {σ : L2.St} {e : List Sl} (g : Good K b L G0 H0 G H σ e) {i : Nat} {q : Option Addr} {kvs : List (Key × D)} (h : nth e i = .own q (.dk kvs)) : e[i]? = some (.own q (.dk kvs)) ∧ ∃ a vs, σ[i]? = some (some (.ref a)) ∧ H a = some (.dK vs) ∧ RepK K G kvs vs := by
  have hi := nth_get h (by simp)
  obtain ⟨a, ho, h1, _, _, _, h5, ⟨vs, rfl, h7⟩, _⟩ := g.slot i _ hi
  exact ⟨hi, a, vs, h1, h5, h7⟩
theorem not_frz_dk {H : Hp} {a : Addr} {vs : List (Key × V)} (h : H a = some (.dK vs)) : ∀ od u, H a ≠ some (.frz od u) := fun od u z => by rw [h] at z; cases z
/-- d[k] = e, d owned -/
def uPut (i : Nat) (uk : DE) (u : DX) : DS := fun DD e => u e fun r e' => r.keep fun d => (∃ q kvs, nth e' i = .own q (.dk kvs)) ∧ uk e' fun rk => ∃ (k : Key) (q : Option Addr) (kvs : List (Key × D)), keyD rk.look = some k ∧ nth e' i = .own q (.dk kvs) ∧ kvs.length < 1000000 ∧ DD.nx (e'.set i (.own q (.dk (putD kvs k d))))
theorem ds_put {i : Nat} {x : Str} {k a : Expr} {uk : DE} {u : DX} {px p2 pos : Pos} (hU : X.A.units + 1 < cLine) (hk : PD X b k uk) (h : PDX X b a u) (hN : X.N[i]? = some x := by rfl) (hv : Vis X.env.scope x := by first | exact Or.inl rfl | exact Or.inr (Or.inl rfl) | exact Or.inr (Or.inr rfl))
    (hd : (x == ("__debug__" : Str)) = false := by decide) (hcd : (x == ("__classdict__" : Str)) = false := by decide) (hs : swapsWith a (some (.Subscript (.Name x px) k p2)) pos.line X.env = pure false := by rfl) :
    PDS X b (.Assign [.Subscript (.Name x px) k p2] a pos) (uPut i uk u) := by
  obtain ⟨t, p, l⟩ := h
  obtain ⟨tk, pk, lk⟩ := hk
  refine ⟨_, ps_dput hU (pe_var hN hv hd hcd) pk p hs, ?_⟩
  intro L G0 H0 G H σ e DD EE g ok hu
  refine l L G0 H0 G H σ e _ _ g hu fun v r e' G' H' g' hr q => ?_
  obtain ⟨d, G2, g2, hd, q⟩ := hr.freeze g' q
  obtain ⟨⟨_, ys, hys⟩, q⟩ := q
  obtain ⟨_, a, vs, q1, _⟩ := g2.ownK hys
  refine ⟨_, q1, ?_⟩
  refine lk L G0 H0 G2 H' σ e' _ _ g2 q fun v3 r3 G3 H3 s3 hr3 q3 => ?_
  obtain ⟨kk, _, kvs, ek, hx, hn, q3⟩ := q3
  have g3 := g2.step s3
  obtain ⟨hi, a', ws, z1, z2, z3⟩ := g3.ownK hx
  rw [q1] at z1
  cases z1
  obtain rfl := keyD_top ek (hr3.top g3)
  refine ⟨a, _, rfl, .inl ⟨ws, kk, z2, rfl, by rw [z3.length]; exact lt_line hn, rfl⟩, ?_⟩
  exact ok.nx _ _ _ _ (g3.upd hi q1 (not_frz_dk z2) (o' := .dk (putD kvs kk d)) ⟨_, rfl, z3.put kk (hd.mono s3.g)⟩) q3
/-- d.get(k, e): the answer is shared -/
def uGet2 (ud uk ue : DE) : DE := fun e P => ud e fun r1 => ∃ kvs, r1.look = .dk kvs ∧ uk e fun r2 => ∃ k, keyD r2.look = some k ∧ ue e (R.keep fun d3 => P (.sh ((valD kvs k).getD d3)))
theorem d_get2 {o k a : Expr} {ud uk ue : DE} {apos cpos : Pos} (hU : X.A.units + 1 < cLine) (h1 : PD X b o ud) (h2 : PD X b k uk) (h3 : PD X b a ue) (m : M2 X o "get" apos k a cpos := by exact ⟨rfl, rfl, rfl, rfl⟩) : PD X b (.Call (.Attribute o "get" apos) [k, a] [] cpos) (uGet2 ud uk ue) := by
  obtain ⟨t1, p1, l1⟩ := h1
  obtain ⟨t2, p2, l2⟩ := h2
  obtain ⟨t3, p3, l3⟩ := h3
  refine ⟨_, pe_dget2 hU p1 p2 p3 m, ?_⟩
  intro L G0 H0 G H σ e P Q g hu kk
  refine l1 L G0 H0 G H σ e _ _ g hu fun v1 r1 G1 H1 s1 hr1 q1 => ?_
  have g1 := g.step s1
  obtain ⟨kvs, e1, q1⟩ := q1
  have t1 := hr1.top g1
  rw [e1] at t1
  obtain ⟨a1, vs, rfl, ha, hr⟩ := t1
  refine ⟨a1, rfl, .inl ⟨vs, ha⟩, ?_⟩
  refine l2 L G0 H0 G1 H1 σ e _ _ g1 q1 fun v2 r2 G2 H2 s2 hr2 q2 => ?_
  have g2 := g1.step s2
  obtain ⟨ky, e2, q2⟩ := q2
  refine l3 L G0 H0 G2 H2 σ e _ _ g2 q2 fun v3 r3 G3 H3 s3 hr3 q3 => ?_
  obtain ⟨d3, G4, s4, hd4, q3⟩ := hr3.freeze s3 q3
  have g4 := g2.step s4
  have t1' := (hr1.step s2).step s4
  have tp := t1'.top g4
  rw [e1] at tp
  obtain ⟨a2, vs2, ea, ha2, hr4⟩ := tp
  cases ea
  have t2' := (hr2.step s4).top g4
  obtain rfl := keyD_top e2 t2'
  refine ⟨valV vs2 ky, .inl ⟨vs2, ky, ha2, rfl, rfl⟩, kk _ (.sh _) G4 H3 ((s1.trans s2).trans s4) ?_ q3⟩
  rcases hr4.get (k := ky) with ⟨z1, z2⟩ | ⟨d', v, z1, z2, z3⟩
  · rw [z1, z2]; exact hd4
  · rw [z1, z2]; exact z3
end
end DL
namespace DL
open PySem L2 PyProof.Rows
/-! ### a call that is handed an owned thing and answers something without parts -/
section
variable {X : Cx} {b : Bg} {K : PySem.W.Frag}
theorem flat_any {G G' : Hp} {d : D} {v : V} (f : flatD d = true) (h : Rep K G d v) : Rep K G' d v := by
  cases d <;> first | exact h | cases f
theorem repO_rep {G G' : Hp} {o : OD} {ho : HO} {a : Addr} (h : RepO K G o ho) (s : Sub G G') (ha : G' a = some ho) : Rep K G' o.d (.ref a) := by
  cases o with
  | lst xs => obtain ⟨vs, rfl, hr⟩ := h; exact ⟨a, vs, rfl, ha, hr.mono s⟩
  | dk kvs => obtain ⟨vs, rfl, hr⟩ := h; exact ⟨a, vs, rfl, ha, RepK.mono s hr⟩
  | obj C fs => obtain ⟨dx, vs, rfl, hr⟩ := h; exact ⟨a, dx, vs, rfl, ha, RepF.mono s hr⟩
def uCallO (f : FS) (i : Nat) (ua : DA) : DE := fun e P => ∃ q o, nth e i = .own q o ∧ ua e fun ds => f (o.d :: ds) fun r => ∃ d, r = .sh d ∧ flatD d = true ∧ P (.sh d)
open Classical in
/-- the frozen part as it was, and the code objects made since -/
noncomputable def onlyC (G G' : Hp) : Hp := fun c => match G c with
  | some o => some o
  | none => if ∃ q, G' c = some (LamX.CodeO c q) then G' c else none
theorem onlyC_sub {G G' : Hp} : Sub G (onlyC G G') := fun c o h => by unfold onlyC; rw [h]
theorem onlyC_code {G G' : Hp} {c : Addr} {q : Str} (s : Sub G G') (h : G' c = some (LamX.CodeO c q)) : onlyC G G' c = some (LamX.CodeO c q) := by
  unfold onlyC
  cases e : G c with
  | some o => have := s _ _ e; rw [h] at this; exact this.symm
  | none => simp only; rw [if_pos ⟨q, h⟩]; exact h
theorem onlyC_cases {G G' : Hp} {c : Addr} {o : HO} (h : onlyC G G' c = some o) : G c = some o ∨ (G c = none ∧ ∃ q, o = LamX.CodeO c q ∧ G' c = some o) := by
  unfold onlyC at h
  cases e : G c with
  | some u => rw [e] at h; exact .inl h
  | none =>
    rw [e] at h
    simp only at h
    split at h
    · rename_i k
      obtain ⟨q, k⟩ := k
      refine .inr ⟨rfl, q, ?_, h⟩
      rw [h] at k
      exact Option.some.inj k
    · cases h
theorem repO_code {K : PySem.W.Frag} {G : Hp} {o : OD} {hO : HO} (h : RepO K G o hO) (a : Addr) (q : Str) : hO ≠ LamX.CodeO a q := fun z => by
  subst z
  cases o with
  | lst xs => obtain ⟨vs, e, _⟩ := h; cases e
  | dk xs => obtain ⟨vs, e, _⟩ := h; cases e
  | obj C xs => obtain ⟨dx, vs, e, _⟩ := h; cases e
theorem repO_tm {K : PySem.W.Frag} {G : Hp} {o : OD} {hO : HO} (h : RepO K G o hO) (q : Str) : hO ≠ tm q := fun z => by
  subst z
  cases o with
  | lst xs => obtain ⟨vs, e, _⟩ := h; cases e
  | dk xs => obtain ⟨vs, e, _⟩ := h; cases e
  | obj C xs => obtain ⟨dx, vs, e, _⟩ := h; cases e
theorem nm_updO {K : PySem.W.Frag} {G G1 : Hp} {o : OD} {hO : HO} {a c : Addr} (h : RepO K G o hO) (nm : NM G1 c) : NM (L2.upd G1 a hO) c := by
  by_cases z : c = a
  · subst z
    intro t y
    rw [upd_same] at y
    exact repO_tm h t (Option.some.inj y)
  · intro t y
    rw [upd_ne z] at y
    exact nm t y
theorem after_only {K : PySem.W.Frag} {b : Option Addr} {G G1 H1 G' H' : Hp} {a : Addr} {hO : HO} {o : OD} (hr : RepO K G o hO) (ga : G1 a = none) (hb : b ≠ some a) (hH : H1 a = some hO) (ex : Ex G1 H1) (s : Stp none [] (L2.upd G1 a hO) H1 G' H') : Stp b [] G1 H1 (onlyC G1 G') H' := by
  have sb := sub_upd (o := hO) ga
  have sg : Sub G1 G' := sb.trans s.g
  have nmU : ∀ {c : Addr}, NM G1 c → NM (L2.upd G1 a hO) c := fun {c} nm => by
    by_cases z : c = a
    · subst z
      intro t y
      rw [upd_same] at y
      cases o with
      | lst xs => obtain ⟨vs, e, _⟩ := hr; subst e; cases y
      | dk xs => obtain ⟨vs, e, _⟩ := hr; subst e; cases y
      | obj C xs => obtain ⟨dx, vs, e, _⟩ := hr; subst e; cases y
    · intro t y
      rw [upd_ne z] at y
      exact nm t y
  refine ⟨onlyC_sub, fun c u hc nm h => .inl (s.fr0 (by simp) h (nmU nm)), fun c hc h hg => ?_, fun c u h => ?_, fun c hc h => ?_⟩
  · cases y : onlyC G1 G' c with
    | none => rfl
    | some u =>
      rcases onlyC_cases y with z | ⟨_, q, e, z⟩
      · rw [hg] at z; cases z
      · by_cases ca : c = a
        · subst ca
          rw [s.g _ _ upd_same] at z
          cases z
          exact (repO_code hr _ _ e).elim
        · rw [s.new c (by simp) h (by rw [upd_ne ca]; exact hg)] at z
          cases z
  · rcases onlyC_cases h with z | ⟨_, q, e, z⟩
    · have nc : c ≠ a := ne_of_none z ga
      rcases s.ex c u (sg _ _ z) with y | ⟨kvs, od, y1, y2⟩ | ⟨q, ps, y1, y2, y3⟩
      · exact .inl y
      · exact .inr (.inl ⟨kvs, od, y1, y2⟩)
      · exact .inr (.inr ⟨q, ps, y1, y2, y3.1, fun pos cv hc => by
          obtain ⟨c', e1, e2⟩ := y3.2 pos cv hc
          exact ⟨c', e1, onlyC_code sg e2⟩⟩)
    · rcases s.ex c u z with y | ⟨kvs, od, y1, y2⟩ | ⟨q', ps, y1, y2, y3⟩
      · exact .inl y
      · rw [e] at y1; cases y1
      · rw [e] at y1; cases y1
  · obtain ⟨b1, q, ns, i, n, z, b2, b3, b4⟩ := h
    have nc : c ≠ a := fun z => hb (by rw [← z]; exact hc)
    refine ⟨?_, q, ns, i, n, z, s.fr0 (by simp) b2 (nmU (nm_none b1)), onlyC_sub _ _ b3, b4⟩
    cases y : onlyC G1 G' c with
    | none => rfl
    | some u =>
      rcases onlyC_cases y with z | ⟨_, q, e, z⟩
      · rw [b1] at z; cases z
      · rw [s.new c (by simp) (by rw [b2]; simp) (by rw [upd_ne nc]; exact b1)] at z
        cases z
theorem d_callO {x y : Str} {i k : Nat} {ps : List Str} {f : FS} {es : List Expr} {ua : DA} {p px pos : Pos} (F : Known X.prog X.w X.K X.mg X.base x k ps (spN X.K f)) (hr : Room k X.A) (ha : PDA X b es ua) (hg : Gl X x := by rfl)
    (hdb : (x == ("__debug__" : Str)) = false := by decide) (hN : X.N[i]? = some y := by rfl) (hv : Vis X.env.scope y := by first | exact Or.inl rfl | exact Or.inr (Or.inl rfl) | exact Or.inr (Or.inr rfl)) (hd : (y == ("__debug__" : Str)) = false := by decide) (hcd : (y == ("__classdict__" : Str)) = false := by decide)
    (he : starEach (.Name y px :: es) X.env = (false, eval (.Name y px) X.env) :: starEach es X.env := by rfl) (hpl : (backTo pos (starEach es X.env)).any (·.1) = false := by rfl) : PD X b (.Call (.Name x p) (.Name y px :: es) [] pos) (uCallO f i ua) := by
  obtain ⟨fa, fd, F, hm, hk, hb⟩ := F
  obtain ⟨t, pa, l⟩ := ha
  refine ⟨_, pe_call F hr hg hm hk hb .nil pass0 (pa_cons (pe_var hN hv hd hcd) pa he) hdb he hpl, ?_⟩
  intro L G0 H0 G H σ e P Q g hu kk
  obtain ⟨q0, o, ho, hu⟩ := hu
  obtain ⟨a, hO, h1, h2, h3, h4, h5, h6, _⟩ := g.slot i _ (nth_get ho (by simp))
  refine ⟨_, h1, ?_⟩
  refine l L G0 H0 G H σ e _ _ g hu fun vs ds G1 H1 s1 hds q => ?_
  have g1 := g.step s1
  have ga : G1 a = none := s1.new a h2 (by rw [h5]; simp) h4
  have haH : H1 a = some hO := s1.fr0 h2 h5
  have sb := sub_upd (o := hO) ga
  have ex2 : Ex (L2.upd G1 a hO) H1 := fun c u h => by
    by_cases z : c = a
    · subst z; rw [upd_same] at h; cases h; exact .inl haH
    · rw [upd_ne z] at h; exact (g1.ex c u h).mono sb
  show spN X.K f ((.ref a :: vs) ++ []) H1 Q E0
  rw [List.append_nil]
  refine ⟨_, o.d :: ds, _, ex2, ⟨_, _, rfl, repO_rep (h6.mono s1.g) sb upd_same, hds.mono sb⟩, q, fun v r G' H' s hr hp => ?_⟩
  obtain ⟨d, rfl, fl, hp⟩ := hp
  have st := after_only (b := b) h6 ga h2 haH g1.ex s
  exact kk v (.sh d) _ H' (s1.trans st) (flat_any fl hr) hp
end
end DL
namespace DL
open PySem L2 PyProof.Rows
section
variable {X : Cx} {b : Bg} {K : PySem.W.Frag}
/-- tuple(xs) -/
def fTupc (d : D) (P : R → Prop) : Prop := match d with
  | .lst xs => P (.sh (.tup xs))
  | _ => False
theorem d_tuplec {a : Expr} {u : DE} {p pos : Pos} (hm : X.mg "tuple" = none) (h1 : PD X b a u) (hg : Gl X "tuple" := by rfl) (hs : starEach (a :: []) X.env = (false, eval a X.env) :: starEach [] X.env := by rfl) : PD X b (.Call (.Name "tuple" p) [a] [] pos) (uB fTupc u) := by
  obtain ⟨t, pe, l⟩ := h1
  refine ⟨_, pe_tupleOf hg hm pe (na := hs), ?_⟩
  intro L G0 H0 G H σ e P Q g hu k
  refine l L G0 H0 G H σ e _ _ g hu fun v r G1 H1 s1 hr q => ?_
  have g1 := g.step s1
  have tp := hr.top g1
  unfold fTupc at q
  split at q
  · rename_i xs ed
    rw [ed] at tp
    obtain ⟨a, vs, rfl, ha, hrep⟩ := tp
    refine .inl ⟨a, vs, rfl, SqL.of ha, fun q2 nq => ?_⟩
    exact g1.newT hrep q (fun v r G2 H2 s2 hr2 p2 => k v r G2 H2 (s1.trans s2) (hr2.back fun a hb z => s1.back a hb z) p2) q2 nq
  · exact q.elim
end
end DL
namespace DL
open PySem L2 PyProof.Rows
section
variable {X : Cx} {b : Bg} {K : PySem.W.Frag}
/-! ### xs.count(z), texts -/
def rCntS (K : PySem.W.Frag) : V → List V → Hp → VK → Prop := fun x xs H Q => ∃ (p : Addr) (zs : List Str) (k : Str), x = .ref p ∧ xs = [.str k] ∧ SqL K H p (zs.map V.str) ∧ Q (.int (zs.count k : Nat)) H
theorem countIn_str (k : Str) : ∀ zs : List Str, Spec.countIn (.str k) (zs.map PyData.str) = ((zs.count k : Nat) : Int) := by
  intro zs
  induction zs with
  | nil => rfl
  | cons z zs ih =>
    rw [List.map_cons, List.count_cons]
    unfold Spec.countIn
    rw [ih]
    by_cases e : z = k
    · subst e; simp [Spec.same]; omega
    · have e' : (z == k) = false := by simpa using e
      simp [Spec.same, e, e']
theorem mt_lcountS : MtR X "list.count" (rCntS X.K) := by
  intro pins s σ H x xs v us Q inv rx rxs hyp
  obtain ⟨p, zs, k, rfl, rfl, hs, q⟩ := hyp
  cases rx
  obtain ⟨u, rfl, t, rfl⟩ := rxs.one
  obtain ⟨its, rv, pl, _⟩ := inv.list hs
  refine count_list_strs pl.isList rv.strs ?_
  rw [countIn_str]
  exact ⟨.int (zs.count k : Nat), H, inv.tok _, ⟨s.toks, rfl⟩, q⟩
end
end DL
/-! DL23: instances of the program's own classes: attributes, methods, making by __init__. -/
namespace DL
open PySem L2 PyProof.Rows
section
variable {X : Cx} {b : Bg} {K : PySem.W.Frag}
theorem RepF.get {G : Hp} {f : Str} : ∀ {fs : List (Str × D)} {vs : List (Str × V)} {x : D}, RepF K G fs vs → fs.lookup f = some x → ∃ v, vs.lookup f = some v ∧ Rep K G x v
  | [], _, _, _, e => by cases e
  | (k, y) :: fs, _, x, ⟨v, r, h1, h2, h3⟩, e => by
    subst h1
    cases q : (f == k) with
    | true =>
      rw [List.lookup_cons, q] at e
      cases e
      exact ⟨v, by rw [List.lookup_cons, q], h2⟩
    | false =>
      rw [List.lookup_cons, q] at e
      obtain ⟨w, z1, z2⟩ := RepF.get h3 e
      exact ⟨w, by rw [List.lookup_cons, q]; exact z1, z2⟩
theorem RepF.lnone {G : Hp} {f : Str} : ∀ {fs : List (Str × D)} {vs : List (Str × V)}, RepF K G fs vs → fs.lookup f = none → vs.lookup f = none
  | [], _, h, _ => by cases h; rfl
  | (k, y) :: fs, _, ⟨v, r, h1, h2, h3⟩, e => by
    subst h1
    cases q : (f == k) with
    | true => rw [List.lookup_cons, q] at e; cases e
    | false => rw [List.lookup_cons, q] at e ⊢; exact RepF.lnone h3 e
theorem RepF.length {G : Hp} : ∀ {fs : List (Str × D)} {vs : List (Str × V)}, RepF K G fs vs → vs.length = fs.length
  | [], _, h => by cases h; rfl
  | (k, y) :: fs, _, ⟨v, r, h1, h2, h3⟩ => by subst h1; simp [RepF.length h3]
def putFD (f : Str) (d : D) : List (Str × D) → List (Str × D)
  | [] => [(f, d)]
  | (g, x) :: r => if g = f then (g, d) :: r else (g, x) :: putFD f d r
theorem RepF.put {G : Hp} {f : Str} {d : D} {v : V} (hd : Rep K G d v) : ∀ {fs : List (Str × D)} {vs : List (Str × V)}, RepF K G fs vs → RepF K G (putFD f d fs) (putF f v vs)
  | [], _, h => by cases h; exact ⟨v, [], rfl, hd, rfl⟩
  | (k, y) :: fs, _, ⟨w, r, h1, h2, h3⟩ => by
    subst h1
    unfold putFD putF
    by_cases q : k = f
    · rw [if_pos q, if_pos q]; exact ⟨v, r, rfl, hd, h3⟩
    · rw [if_neg q, if_neg q]; exact ⟨w, _, rfl, h2, RepF.put hd h3⟩
/-- o.f -/
def uFld (C : Addr) (f : Str) (u : DE) : DE := fun e P => u e fun r => ∃ fs x, r.look = .obj C fs ∧ fs.lookup f = some x ∧ P (.sh x)
theorem d_fld {C : Addr} {f : Str} {a : Expr} {u : DE} {pos : Pos} (c : Cls X.K C) (n : NoAttr X.K C f) (h : PD X b a u) (hb : attributeBase a f X.env (eval a X.env) = eval a X.env := by rfl) : PD X b (.Attribute a f pos) (uFld C f u) := by
  obtain ⟨t, p, l⟩ := h
  refine ⟨_, pe_fld p hb, ?_⟩
  intro L G0 H0 G H σ e P Q g hu k
  refine l L G0 H0 G H σ e _ _ g hu fun v r G' H' s hr ⟨fs, x, hl, hf, hp⟩ => ?_
  have g' := g.step s
  have tp := hr.top g'
  rw [hl] at tp
  obtain ⟨a, dx, vs, rfl, ha, hrf⟩ := tp
  obtain ⟨w, hw, hx⟩ := hrf.get hf
  exact ⟨a, C, dx, vs, w, rfl, ha, c, n, hw, k w (.sh x) G' H' (Stp.trans s (Stp.refl g'.ex)) hx hp⟩
/-- a method of a class -/
structure KnownM (P : Program) (w : World) (K : PySem.W.Frag) (mg : Str → Option Value) (base : Heap) (C : Addr) (m : Str) (k : Nat) (ps : List Str) (sp : Sp) : Prop where
  ex : ∃ g fd, FnOk P w K mg base CX0 k g fd ps sp ∧ Meth K C m g ∧ Cls K C ∧ Binds K fd ps []
theorem ret_rep {L : Lk} {G0 H0 G1 H1 G' H' : Hp} {Hs : Hp} {σ : L2.St} {e : List Sl} {r : R} {v : V} (g1 : Good K b L G0 H0 G1 H1 σ e) (hr : RepR K none H1 [] [] G' H' r v) (hs : ∀ a, b.a ≠ some a → H1 a = none → Hs a = none) : RepR K b Hs σ e G' H' r v := by
  cases r with
  | sh d => exact hr
  | ow o =>
    obtain ⟨a, ho, h1, _, h3, h4⟩ := hr
    have hb : b.a ≠ some a := g1.nb h3
    exact ⟨a, ho, h1, hb, hs a hb h3, h4⟩
  | al i o => obtain ⟨⟨_, h⟩, _⟩ := hr; simp at h
def uMeth (C : Addr) (m : Str) (f : FS) (uo : DE) (ua : DA) : DE := fun e P => uo e (R.keep fun d => ∃ fs, d = .obj C fs ∧ fs.lookup m = none ∧ ua e fun ds => f (d :: ds) P)
theorem le_meth {C : Addr} {m : Str} {f : FS} {to : TE} {ta : TA} {uo : DE} {ua : DA} (l1 : LE K b to uo) (l2 : LA K b ta ua) : LE K b (tMeth C m (spN K f) [] E0 to ta) (uMeth C m f uo ua) := by
  intro L G0 H0 G H σ e P Q g hu k
  refine l1 L G0 H0 G H σ e _ _ g hu fun v r G1 H1 s1 hr q => ?_
  obtain ⟨d, G2, s2, hd, q⟩ := hr.freeze s1 q
  obtain ⟨fs, rfl, hm, q⟩ := q
  have g2 := g.step s2
  obtain ⟨a, dx, vs, rfl, hG, hrf⟩ := id hd
  have hH : H1 a = some (.ins C dx vs) := by
    rcases g2.ex.old a _ hG with z | ⟨_, _, z, _⟩
    · exact z
    · cases z
  refine ⟨a, dx, vs, rfl, hH, hrf.lnone hm, ?_⟩
  refine l2 L G0 H0 G2 H1 σ e _ _ g2 q fun ws ds G3 H3 s3 hr3 q3 => ?_
  have s23 := s2.trans s3
  have g3 := g.step s23
  rw [List.append_nil]
  refine ⟨G3, .obj C fs :: ds, P, g3.ex, ⟨_, _, rfl, hd.mono s3.g, hr3⟩, q3, fun v r G' H' s hr hp => ?_⟩
  exact k v r G' H' (s23.trans s.some) (ret_rep g3 hr fun a hb z => s23.back a hb z) hp
theorem d_meth {C : Addr} {m : Str} {k : Nat} {ps : List Str} {f : FS} {o a : Expr} {es : List Expr} {uo : DE} {ua : DA} {apos pos : Pos} {pl : Sem Bool} (F : KnownM X.prog X.w X.K X.mg X.base C m k ps (spN X.K f)) (hr : Room k X.A) (ho : PD X b o uo) (ha : PDA X b (a :: es) ua)
    (hst : starEach (a :: es) X.env = (false, eval a X.env) :: starEach es X.env := by rfl) (hpl : (backTo pos (starEach es X.env)).any (·.1) = false := by rfl)
    (ht : eval (.Call (.Attribute o m apos) (a :: es) [] pos) X.env = (do
      let ov ← eval o X.env
      standAt apos.atName
      let (f, first) ← holding [ov] (getMethod ov m pl)
      callWith pos f first (backTo pos (starEach (a :: es) X.env)) (backToKw pos (keywordEach [] X.env))) := by rfl) : PD X b (.Call (.Attribute o m apos) (a :: es) [] pos) (uMeth C m f uo ua) := by
  obtain ⟨g, fd, F, M, c, bi⟩ := F
  obtain ⟨to, po, lo⟩ := ho
  obtain ⟨ta, pa, la⟩ := ha
  exact ⟨_, pe_meth (pl := pl) po c M F hr bi .nil pass0 pa hst hpl ht, le_meth lo la⟩
theorem d_meth0 {C : Addr} {m : Str} {k : Nat} {ps : List Str} {f : FS} {o : Expr} {uo : DE} {apos pos : Pos} {pl : Sem Bool} (F : KnownM X.prog X.w X.K X.mg X.base C m k ps (spN X.K f)) (hr : Room k X.A) (ho : PD X b o uo)
    (ht : eval (.Call (.Attribute o m apos) [] [] pos) X.env = (do
      let ov ← eval o X.env
      standAt apos.atName
      let (f, first) ← holding [ov] (getMethod ov m pl)
      callWith pos f first (backTo pos (starEach [] X.env)) (backToKw pos (keywordEach [] X.env))) := by rfl) : PD X b (.Call (.Attribute o m apos) [] [] pos) (uMeth C m f uo uNil) := by
  obtain ⟨g, fd, F, M, c, bi⟩ := F
  obtain ⟨to, po, lo⟩ := ho
  exact ⟨_, pe_meth0 (pl := pl) po c M F hr bi .nil pass0 ht, le_meth lo la_nil⟩
/-- C(..): what __init__ promises -/
abbrev FI := List D → (List (Str × D) → Prop) → Prop
def but (H : Hp) (a : Addr) : Hp := fun c => if c = a then none else H c
theorem but_same {H : Hp} {a : Addr} : but H a a = none := if_pos rfl
theorem but_ne {H : Hp} {a c : Addr} (h : c ≠ a) : but H a c = H c := if_neg h
def spI (K : PySem.W.Frag) (C : Addr) (f : FI) : Sp := fun vs H Q _ => ∃ a dx vs' G ds P, vs = .ref a :: vs' ∧ Ex G H ∧ G a = none ∧ H a = some (.ins C dx []) ∧ RepL K G ds vs' ∧ f ds P ∧
  ∀ fs G' H' ho, Stp none [] G (but H a) G' H' → G' a = none → H' a = some ho → RepO K G' (.obj C fs) ho → P fs → Q .non H'
structure KnownI (P : Program) (w : World) (K : PySem.W.Frag) (mg : Str → Option Value) (base : Heap) (x : Str) (C : Addr) (k : Nat) (ps : List Str) (sp : Sp) : Prop where
  ex : ∃ g fd, FnOk P w K mg base CX0 k g fd ps sp ∧ Mk K C g ∧ mg x = some (.ref C) ∧ Binds K fd ps []
def uMake (C : Addr) (f : FI) (ua : DA) : DE := fun e P => ua e fun ds => f ds fun fs => P (.ow (.obj C fs))
theorem le_make {C : Addr} {f : FI} {ta : TA} {ua : DA} (l : LA K b ta ua) : LE K b (tMake C (spI K C f) [] E0 ta) (uMake C f ua) := by
  intro L G0 H0 G H σ e P Q g hu k
  refine l L G0 H0 G H σ e _ _ g hu fun vs ds G1 H1 s1 hds q => ?_
  have g1 := g.step s1
  intro x dx hx hdx ne
  rw [List.append_nil]
  have ex1 : Ex G1 (L2.upd (L2.upd H1 dx (.own x)) x (.ins C dx [])) := fun c o h => by
    have c1 : c ≠ x := ne_of_none h (g1.ex.none hx)
    have c2 : c ≠ dx := ne_of_none h (g1.ex.none hdx)
    rw [upd_ne c1, upd_ne c2]
    exact g1.ex c o h
  refine ⟨x, dx, vs, G1, ds, _, rfl, ex1, g1.ex.none hx, upd_same, hds, q, fun fs G' H' ho s hG hH hr hp => ⟨rfl, ?_⟩⟩
  have up : ∀ c o, H1 c = some o → but (L2.upd (L2.upd H1 dx (.own x)) x (.ins C dx [])) x c = some o := fun c o h => by
    have c1 : c ≠ x := ne_of_none h hx
    have c2 : c ≠ dx := ne_of_none h hdx
    rw [but_ne c1, upd_ne c1, upd_ne c2]; exact h
  have s' : Stp b [] G1 H1 G' H' := by
    refine ⟨s.g, fun c o hb nm h => .inl (s.fr0 (by simp) (up c o h)), fun c hb h hg => ?_, s.ex, fun c hc ⟨h1, q, ns, i, n, z, h2, h3, h4⟩ => ?_⟩
    · cases hh : H1 c with
      | none => exact absurd hh h
      | some o => exact s.new c (by simp) (by rw [up c o hh]; simp) hg
    · exact ⟨s.new c (by simp) (by rw [up _ _ h2]; simp) h1, q, ns, i, n, z, s.fr0 (by simp) (up _ _ h2), s.g _ _ h3, h4⟩
  exact k (.ref x) (.ow (.obj C fs)) G' H' (s1.trans s') ⟨x, ho, rfl, g1.nb hx, s1.back x (g1.nb hx) hx, hG, hH, hr⟩ hp
theorem d_make {x : Str} {C : Addr} {k : Nat} {ps : List Str} {f : FI} {a : Expr} {es : List Expr} {ua : DA} {p pos : Pos} (F : KnownI X.prog X.w X.K X.mg X.base x C k ps (spI X.K C f)) (hr : Room (k + 1) X.A) (ha : PDA X b (a :: es) ua) (hg : Gl X x := by rfl)
    (hdb : (x == ("__debug__" : Str)) = false := by decide) (he : starEach (a :: es) X.env = (false, eval a X.env) :: starEach es X.env := by rfl) (hpl : (backTo pos (starEach es X.env)).any (·.1) = false := by rfl) : PD X b (.Call (.Name x p) (a :: es) [] pos) (uMake C f ua) := by
  obtain ⟨g, fd, F, M, hm, bi⟩ := F
  obtain ⟨t, pa, l⟩ := ha
  exact ⟨_, pe_make M F hr hg hm bi .nil pass0 pa hdb he hpl, le_make l⟩
theorem Good.ownF {L : Lk} {G0 H0 G H : Hp} {σ : L2.St} {e : List Sl} (g : Good K b L G0 H0 G H σ e) {i : Nat} {q : Option Addr} {C : Addr} {fs : List (Str × D)} (h : nth e i = .own q (.obj C fs)) : e[i]? = some (.own q (.obj C fs)) ∧ ∃ a dx vs, σ[i]? = some (some (.ref a)) ∧ H a = some (.ins C dx vs) ∧ RepF K G fs vs := by
  have hi := nth_get h (by simp)
  obtain ⟨a, ho, h1, _, _, _, h5, ⟨dx, vs, h6, h7⟩, _⟩ := g.slot i _ hi
  subst h6
  exact ⟨hi, a, dx, vs, h1, h5, h7⟩
/-- self.f = e -/
def uPutF (i : Nat) (C : Addr) (f : Str) (u : DX) : DS := fun DD e => u e fun r e' => r.keep fun d => ∃ q fs, nth e' i = .own q (.obj C fs) ∧ fs.length < 1000 ∧ DD.nx (e'.set i (.own q (.obj C (putFD f d fs))))
theorem ds_putF {i : Nat} {x f : Str} {C : Addr} {a : Expr} {u : DX} {px p2 pos : Pos} (c : Cls X.K C) (n : NoAttr X.K C f) (h : PDX X b a u) (hN : X.N[i]? = some x := by rfl) (hv : Vis X.env.scope x := by first | exact Or.inl rfl | exact Or.inr (Or.inl rfl) | exact Or.inr (Or.inr rfl))
    (hd : (x == ("__debug__" : Str)) = false := by decide) (hcd : (x == ("__classdict__" : Str)) = false := by decide) (hs : swapsWith a (some (.Attribute (.Name x px) f p2)) pos.line X.env = pure false := by rfl) :
    PDS X b (.Assign [.Attribute (.Name x px) f p2] a pos) (uPutF i C f u) := by
  obtain ⟨t, p, l⟩ := h
  refine ⟨_, ps_fld (pe_var hN hv hd hcd) p hs, ?_⟩
  intro L G0 H0 G H σ e DD EE g ok hu
  refine l L G0 H0 G H σ e _ _ g hu fun v r e' G' H' g' hr q => ?_
  obtain ⟨d, G2, g2, hd, q⟩ := hr.freeze g' q
  obtain ⟨t, fs, hys, hl, q⟩ := q
  obtain ⟨hi, a, dx, vs, q1, q2, q3⟩ := g2.ownF hys
  refine ⟨_, q1, a, C, dx, vs, rfl, q2, c, n, by rw [q3.length]; exact hl, ?_⟩
  exact ok.nx _ _ _ _ (g2.upd hi q1 (fun od u z => by rw [q2] at z; cases z) (o' := .obj C (putFD f d fs)) ⟨dx, _, rfl, q3.put hd⟩) q
end
section
variable {K : PySem.W.Frag} {P : Program} {w : World} {mg : Str → Option Value} {base : Heap}
/-- an __init__ -/
theorem fn_init {qual : Str} {st : Stmt} {f C : Addr} {fd : FuncData} {N ps : List Str} {k : Nat} {fi : FI} {u : DS} (F : Fun K "__init__" qual st f fd) (S : FnScope N ps (defScope st)) (len : ∀ ds P, fi ds P → ds.length + 1 = ps.length) (hN : N.length = N.tail.length + 1)
    (hb : ∀ (cdv : Value) (A : Around) (outer : List Env) (s : Shared) (H : Hp) (E : XK), Room k (A.deeper (envOfC qual (defScope st) s.heap.objs.size f cdv)) → PDSs (cxOf CX0 P w K mg base N qual (defScope st) f cdv A outer s H E).nox (bN none) (defBody st) u)
    (hu : ∀ (q : Option Addr) ds P, fi ds P → u ⟨fun e => ∃ fs, nth e 0 = .own q (.obj C fs) ∧ P fs, fun r e => r = .sh .non ∧ ∃ fs, nth e 0 = .own q (.obj C fs) ∧ P fs, fun _ => False, fun _ => False⟩ (.own q (.obj C []) :: env0 N.tail ds)) : FnOk P w K mg base CX0 (k + 1) f fd ps (spI K C fi) := by
  refine F.ok S (fun vs H Q E h => ?_) (fun cdv A outer s H vs Q E hr h => ?_)
  · obtain ⟨a, dx, vs', G, ds, P, rfl, _, _, _, hr, hf, _⟩ := h
    rw [List.length_cons, hr.length]; exact len ds P hf
  · obtain ⟨a, dx, vs', G, ds, P', rfl, ex, hga, hH, hds, hf, kk⟩ := h
    obtain ⟨t, p, l⟩ := hb cdv A outer s H E hr
    have es : L2.start N (.ref a :: vs') = some (.ref a) :: (vs'.map some ++ List.replicate (N.tail.length - vs'.length) none) := by
      unfold L2.start
      rw [List.map_cons, List.length_cons, hN, Nat.add_sub_add_right]
      rfl
    refine ⟨t, p, ?_⟩
    rw [es]
    have ea : ∀ {c : Addr} {o : HO}, but H a c = some o → c ≠ a ∧ H c = some o := fun {c o} h => by
      have hc : c ≠ a := fun z => by rw [z, but_same] at h; cases h
      exact ⟨hc, by rw [← but_ne (H := H) hc]; exact h⟩
    have noo : ∀ {j : Nat} {t : Option Addr} {o : OD}, (Sl.own (some a) (.obj C []) :: env0 N.tail ds)[j]? = some (.own t o) → j = 0 := fun {j t o} e => by
      cases j with
      | zero => rfl
      | succ j => exact absurd (show (ds.map Sl.sh ++ List.replicate _ .un)[j]? = some (.own t o) by simpa [env0] using e) noown
    have gd : Good K (bN none) [] G (but H a) G H (some (.ref a) :: (vs'.map some ++ List.replicate (N.tail.length - vs'.length) none)) (.own (some a) (.obj C []) :: env0 N.tail ds) := by
      refine ⟨⟨⟨Sub.refl G, fun c o _ _ h => .inl (ea h).2, fun _ _ _ h => h, ex, fun c h => (by cases h)⟩, fun j y e => ?_, fun j j' q q' o o' c e1 e2 _ _ => by rw [noo e1, noo e2], fun c h => (by cases h), fun c od u m => (by cases m), ?_⟩, xl_n⟩
      · cases j with
        | zero => cases e; exact ⟨a, _, rfl, by simp, but_same, hga, hH, ⟨dx, [], rfl, rfl⟩, fun a0 h => by cases h; rfl⟩
        | succ j => exact slot_start hds _ _ j y (by simpa [env0] using e)
      · have := hds.length
        unfold env0
        simp [this]
    have fin : ∀ {G' H' : Hp} {σ : L2.St} {e : List Sl}, Good K (bN none) [] G (but H a) G' H' σ e → (∃ fs, nth e 0 = .own (some a) (.obj C fs) ∧ P' fs) → Q .non H' := fun {G' H' σ e} g ⟨fs, he, hp⟩ => by
      obtain ⟨a', ho, q1, q2, q3, q4, q5, q6, q7⟩ := g.slot 0 _ (nth_get he (by simp))
      have eqa := q7 a rfl
      subst eqa
      exact kk fs G' H' ho g.stp q4 q5 q6 hp
    refine l [] G (but H a) G H _ _ ⟨fun e => ∃ fs, nth e 0 = .own (some a) (.obj C fs) ∧ P' fs, fun r e => r = .sh .non ∧ ∃ fs, nth e 0 = .own (some a) (.obj C fs) ∧ P' fs, fun _ => False, fun _ => False⟩ _ gd ⟨fun G' H' σ e g h => fin g h, fun G' H' σ e v r g hr h => ?_, fun G' H' σ e g h => h.elim, fun G' H' σ e g h => h.elim⟩ (hu (some a) ds P' hf)
    obtain ⟨rfl, h⟩ := h
    cases hr
    exact fin g h
end
end DL
/-! DL24: plain tools: sorted texts and numbers as functions; dicts as lists of pairs; comprehensions that only map and filter. -/
namespace DL
open PySem L2 PyProof.Rows PySem.Spec
theorem ltCps_iff : ∀ a b : List Nat, ltCps a b = decide (a < b)
  | [], [] => by simp [ltCps]
  | [], _ :: _ => by simp [ltCps]
  | _ :: _, [] => by simp [ltCps]
  | a :: r, b :: t => by
    have ih := ltCps_iff r t
    show (decide (a < b) || (a == b && ltCps r t)) = _
    rw [ih, Bool.eq_iff_iff]
    simp [List.cons_lt_cons_iff]
def leS (a b : Str) : Bool := !ltCps b.cps.toList a.cps.toList
theorem leS_iff {a b : Str} : leS a b = true ↔ ¬ b.cps.toList < a.cps.toList := by unfold leS; rw [ltCps_iff]; simp
theorem leS_trans (a b c : Str) (h : leS a b = true) (h' : leS b c = true) : leS a c = true := by
  rw [leS_iff] at h h' ⊢
  exact List.le_trans (show a.cps.toList ≤ b.cps.toList from h) (show b.cps.toList ≤ c.cps.toList from h')
theorem leS_total (a b : Str) : (leS a b || leS b a) = true := by
  rw [Bool.or_eq_true, leS_iff, leS_iff]
  rcases List.le_total a.cps.toList b.cps.toList with h | h
  · exact .inl h
  · exact .inr h
theorem Str_ext {a b : Str} (h : a.cps.toList = b.cps.toList) : a = b := by
  obtain ⟨⟨a⟩⟩ := a
  obtain ⟨⟨b⟩⟩ := b
  simp at h
  subst h
  rfl
theorem leS_anti {a b : Str} (h : leS a b = true) (h' : leS b a = true) : a = b := by
  rw [leS_iff] at h h'
  exact Str_ext (List.le_antisymm (show a.cps.toList ≤ b.cps.toList from h) (show b.cps.toList ≤ a.cps.toList from h'))
theorem rising_pw : ∀ (l : List Str) (p : Str), risingS p l = true → (∀ y ∈ l, leS p y = true) ∧ l.Pairwise (fun a b => leS a b = true)
  | [], _, _ => ⟨by simp, .nil⟩
  | x :: r, p, h => by
    rw [show risingS p (x :: r) = (!ltCps x.cps.toList p.cps.toList && risingS x r) from rfl, Bool.and_eq_true] at h
    obtain ⟨h1, h2⟩ := rising_pw r x h.2
    have h0 : leS p x = true := h.1
    refine ⟨fun y hy => ?_, .cons h1 h2⟩
    rcases List.mem_cons.mp hy with rfl | hy
    · exact h0
    · exact leS_trans _ _ _ h0 (h1 y hy)
theorem sortedS_pw {l : List Str} (h : sortedS l = true) : l.Pairwise (fun a b => leS a b = true) := by
  cases l with
  | nil => exact .nil
  | cons x r => obtain ⟨h1, h2⟩ := rising_pw r x h; exact .cons h1 h2
def srtS (zs : List Str) : List Str := zs.mergeSort leS
def leI (a b : Int) : Bool := decide (a ≤ b)
def srtI (ns : List Int) : List Int := ns.mergeSort leI
theorem srtS_perm (zs : List Str) : (srtS zs).Perm zs := List.mergeSort_perm _ _
theorem srtI_perm (zs : List Int) : (srtI zs).Perm zs := List.mergeSort_perm _ _
theorem srtS_pw (zs : List Str) : (srtS zs).Pairwise (fun a b => leS a b = true) := List.pairwise_mergeSort leS_trans leS_total _
theorem srtI_pw (zs : List Int) : (srtI zs).Pairwise (fun a b => leI a b = true) := List.pairwise_mergeSort (fun a b c h h' => by simp [leI] at *; omega) (fun a b => by simp [leI]; omega) _
theorem srtS_eq {ys zs : List Str} (h : ys.Perm zs) (p : ys.Pairwise (fun a b => leS a b = true)) : ys = srtS zs :=
  List.Perm.eq_of_pairwise (fun a b _ _ h h' => leS_anti h h') p (srtS_pw zs) (h.trans (srtS_perm zs).symm)
theorem srtI_eq {ys zs : List Int} (h : ys.Perm zs) (p : ys.Pairwise (· ≤ ·)) : ys = srtI zs :=
  List.Perm.eq_of_pairwise (le := fun a b => leI a b = true) (fun a b _ _ h h' => by simp [leI] at h h'; omega) (p.imp fun h => by simpa [leI] using h) (srtI_pw zs) (h.trans (srtI_perm zs).symm)
theorem srtS_mem {zs : List Str} {z : Str} : z ∈ srtS zs ↔ z ∈ zs := (srtS_perm zs).mem_iff
theorem srtI_mem {zs : List Int} {z : Int} : z ∈ srtI zs ↔ z ∈ zs := (srtI_perm zs).mem_iff
theorem srtS_len (zs : List Str) : (srtS zs).length = zs.length := (srtS_perm zs).length_eq
theorem srtI_len (zs : List Int) : (srtI zs).length = zs.length := (srtI_perm zs).length_eq
/-- distinct -/
def dd {α : Type} [DecidableEq α] : List α → List α
  | [] => []
  | x :: xs => if x ∈ xs then dd xs else x :: dd xs
theorem dd_mem {α : Type} [DecidableEq α] {x : α} : ∀ {xs : List α}, x ∈ dd xs ↔ x ∈ xs
  | [] => Iff.rfl
  | y :: xs => by
    unfold dd
    split
    · rw [dd_mem, List.mem_cons]
      constructor
      · exact .inr
      · rintro (rfl | h)
        · assumption
        · exact h
    · rw [List.mem_cons, List.mem_cons, dd_mem]
theorem dd_nodup {α : Type} [DecidableEq α] : ∀ xs : List α, (dd xs).Nodup
  | [] => .nil
  | y :: xs => by
    unfold dd
    split
    · exact dd_nodup xs
    · rename_i h; exact List.nodup_cons.mpr ⟨fun z => h (dd_mem.mp z), dd_nodup xs⟩
theorem dd_len {α : Type} [DecidableEq α] : ∀ xs : List α, (dd xs).length ≤ xs.length
  | [] => Nat.le_refl _
  | y :: xs => by
    have := dd_len xs
    unfold dd
    split
    · exact Nat.le_succ_of_le this
    · exact Nat.succ_le_succ this
theorem perm_mem {α : Type} [DecidableEq α] {xs ys : List α} (h : xs.Nodup) (h' : ys.Nodup) (k : ∀ y, y ∈ xs ↔ y ∈ ys) : xs.Perm ys := by
  rw [List.perm_iff_count]
  intro a
  rw [h.count, h'.count]
  by_cases m : a ∈ xs
  · rw [if_pos m, if_pos ((k a).mp m)]
  · rw [if_neg m, if_neg (fun z => m ((k a).mpr z))]
/-- sorted(set(..)) -/
def setS (zs : List Str) : List Str := srtS (dd zs)
def setI (zs : List Int) : List Int := srtI (dd zs)
theorem setS_mem {zs : List Str} {z : Str} : z ∈ setS zs ↔ z ∈ zs := srtS_mem.trans dd_mem
theorem setI_mem {zs : List Int} {z : Int} : z ∈ setI zs ↔ z ∈ zs := srtI_mem.trans dd_mem
theorem setS_nodup (zs : List Str) : (setS zs).Nodup := (srtS_perm _).nodup_iff.mpr (dd_nodup zs)
theorem setI_nodup (zs : List Int) : (setI zs).Nodup := (srtI_perm _).nodup_iff.mpr (dd_nodup zs)
theorem setS_pw (zs : List Str) : (setS zs).Pairwise (fun a b => leS a b = true) := srtS_pw _
theorem setI_pw (zs : List Int) : (setI zs).Pairwise (fun a b => leI a b = true) := srtI_pw _
theorem setS_len (zs : List Str) : (setS zs).length ≤ zs.length := by unfold setS; rw [srtS_len]; exact dd_len zs
theorem setI_len (zs : List Int) : (setI zs).length ≤ zs.length := by unfold setI; rw [srtI_len]; exact dd_len zs
theorem setS_uniq {ys zs : List Str} (p : ys.Pairwise (fun a b => leS a b = true)) (n : ys.Nodup) (m : ∀ y, y ∈ ys ↔ y ∈ zs) : ys = setS zs :=
  srtS_eq (perm_mem n (dd_nodup zs) fun y => (m y).trans dd_mem.symm) p
theorem setI_uniq {ys zs : List Int} (p : ys.Pairwise (fun a b => leI a b = true)) (n : ys.Nodup) (m : ∀ y, y ∈ ys ↔ y ∈ zs) : ys = setI zs :=
  srtI_eq (perm_mem n (dd_nodup zs) fun y => (m y).trans dd_mem.symm) (p.imp fun h => by simpa [leI] using h)
theorem fSorted_S {zs : List Str} {P : R → Prop} (h : zs.length < 64) (p : P (.ow (.lst ((srtS zs).map .str)))) : fSorted (.lst (zs.map .str)) P :=
  .inr ⟨zs, rfl, h, fun ys pm so => by rw [srtS_eq pm (sortedS_pw so)]; exact p⟩
theorem fSorted_I {zs : List Int} {P : R → Prop} (p : P (.ow (.lst ((srtI zs).map .int)))) : fSorted (.lst (zs.map .int)) P :=
  .inl ⟨zs, rfl, fun ys pm so => by rw [srtI_eq pm so]; exact p⟩
theorem fSortSet_S {zs : List Str} {P : R → Prop} (h : zs.length ≤ 1000) (p : P (.ow (.lst ((setS zs).map .str)))) {xs : List D} {d : D} (hx : xs = zs.map .str) (hd : d = .lst xs ∨ d = .tup xs) : fSortSet d P :=
  ⟨xs, hd, .inr ⟨zs, hx, h, fun ys so nd m => by rw [setS_uniq (sortedS_pw so) nd m]; exact p⟩⟩
theorem fSortSet_I {zs : List Int} {P : R → Prop} (h : zs.length ≤ 1000) (p : P (.ow (.lst ((setI zs).map .int)))) {xs : List D} {d : D} (hx : xs = zs.map .int) (hd : d = .lst xs ∨ d = .tup xs) : fSortSet d P :=
  ⟨xs, hd, .inl ⟨zs, hx, h, fun ys so nd m => by rw [setI_uniq (so.imp fun h => by simpa [leI] using h) nd m]; exact p⟩⟩
/-! ### dicts as lists of pairs -/
section
variable {κ α : Type} [DecidableEq κ]
def aget (kvs : List (κ × α)) (k : κ) : Option α := (kvs.find? fun kv => decide (kv.1 = k)).map (·.2)
def aput (kvs : List (κ × α)) (k : κ) (d : α) : List (κ × α) := if (kvs.any fun kv => decide (kv.1 = k)) = true then kvs.map (fun kv => if kv.1 = k then (kv.1, d) else kv) else kvs ++ [(k, d)]
def dkv (kj : κ → Key) (f : α → D) (kvs : List (κ × α)) : List (Key × D) := kvs.map fun kv => (kj kv.1, f kv.2)
variable {kj : κ → Key} {f : α → D}
theorem valD_dkv (hj : ∀ a b, kj a = kj b → a = b) (kvs : List (κ × α)) (k : κ) : valD (dkv kj f kvs) (kj k) = (aget kvs k).map f := by
  unfold valD aget dkv
  induction kvs with
  | nil => rfl
  | cons p r ih =>
    rw [List.map_cons, List.find?_cons, List.find?_cons]
    by_cases h : p.1 = k
    · have h1 : decide (kj p.1 = kj k) = true := by rw [h]; simp
      have h2 : decide (p.1 = k) = true := by simp [h]
      rw [h1, h2]; rfl
    · have h1 : decide (kj p.1 = kj k) = false := decide_eq_false fun z => h (hj _ _ z)
      have h2 : decide (p.1 = k) = false := decide_eq_false h
      rw [h1, h2]; exact ih
theorem putD_dkv (hj : ∀ a b, kj a = kj b → a = b) (kvs : List (κ × α)) (k : κ) (d : α) : putD (dkv kj f kvs) (kj k) (f d) = dkv kj f (aput kvs k d) := by
  have hd : ∀ a : κ, decide (kj a = kj k) = decide (a = k) := fun a => by
    by_cases h : a = k
    · rw [h]; simp
    · rw [decide_eq_false h, decide_eq_false fun z => h (hj _ _ z)]
  have e : ((dkv kj f kvs).any fun kv => decide (kv.1 = kj k)) = (kvs.any fun kv => decide (kv.1 = k)) := by
    unfold dkv
    rw [List.any_map]
    congr 1
    funext kv
    exact hd kv.1
  unfold putD aput
  rw [e]
  split
  · unfold dkv
    rw [List.map_map, List.map_map]
    apply List.map_congr_left
    intro p _
    show (if kj p.1 = kj k then (kj p.1, f d) else (kj p.1, f p.2)) = _
    by_cases h : p.1 = k
    · rw [if_pos (by rw [h])]; simp [h]
    · rw [if_neg fun z => h (hj _ _ z)]; simp [h]
  · unfold dkv
    rw [List.map_append]
    rfl
theorem keys_dkv (kvs : List (κ × α)) : (dkv kj f kvs).map (·.1) = (kvs.map (·.1)).map kj := by unfold dkv; rw [List.map_map, List.map_map]; rfl
theorem dkv_len (kvs : List (κ × α)) : (dkv kj f kvs).length = kvs.length := by simp [dkv]
theorem aput_keys (kvs : List (κ × α)) (k : κ) (d : α) : (aput kvs k d).map (·.1) = if k ∈ kvs.map (·.1) then kvs.map (·.1) else kvs.map (·.1) ++ [k] := by
  unfold aput
  have e : ((kvs.any fun kv => decide (kv.1 = k)) = true) ↔ k ∈ kvs.map (·.1) := by
    rw [List.any_eq_true, List.mem_map]
    constructor
    · rintro ⟨p, h1, h2⟩; exact ⟨p, h1, of_decide_eq_true h2⟩
    · rintro ⟨p, h1, h2⟩; exact ⟨p, h1, decide_eq_true h2⟩
  by_cases h : k ∈ kvs.map (·.1)
  · rw [if_pos (e.mpr h), if_pos h, List.map_map]
    apply List.map_congr_left
    intro p _
    show (if p.1 = k then (p.1, d) else p).1 = p.1
    split <;> rfl
  · rw [if_neg fun z => h (e.mp z), if_neg h, List.map_append]; rfl
theorem aget_put (kvs : List (κ × α)) (k : κ) (d : α) (j : κ) : aget (aput kvs k d) j = if j = k then some d else aget kvs j := by
  have fi : ∀ l : List (κ × α), aget (l.map fun kv => if kv.1 = k then (kv.1, d) else kv) j = if j = k then (if (l.any fun kv => decide (kv.1 = k)) = true then some d else none) else aget l j := by
    intro l
    induction l with
    | nil => unfold aget; simp
    | cons p r ih =>
      unfold aget at ih ⊢
      rw [List.map_cons, List.find?_cons, List.find?_cons, List.any_cons]
      by_cases h1 : p.1 = k
      · rw [if_pos h1]
        by_cases h2 : j = k
        · simp [h1, h2]
        · have : ¬ p.1 = j := fun z => h2 (z.symm.trans h1)
          simp only [decide_eq_false this, if_neg h2] at ih ⊢
          exact ih
      · rw [if_neg h1]
        by_cases h3 : p.1 = j
        · have : ¬ j = k := fun z => h1 (h3.trans z)
          simp [h3, this]
        · simp only [decide_eq_false h3, decide_eq_false h1, Bool.false_or]
          exact ih
  have fa : ∀ l : List (κ × α), aget (l ++ [(k, d)]) j = ((aget l j).or (if k = j then some d else none)) := by
    intro l
    unfold aget
    rw [List.find?_append]
    cases l.find? fun kv => decide (kv.1 = j) with
    | some p => rfl
    | none => by_cases h : k = j <;> simp [h]
  unfold aput
  split
  · rename_i h
    rw [fi]
    by_cases q : j = k
    · rw [if_pos q, if_pos q, if_pos h]
    · rw [if_neg q, if_neg q]
  · rename_i h
    rw [fa]
    by_cases q : j = k
    · subst q
      have : aget kvs j = none := by
        unfold aget
        rw [List.find?_eq_none.mpr fun p hp z => h (List.any_eq_true.mpr ⟨p, hp, z⟩)]
        rfl
      rw [this]; simp
    · rw [if_neg q, if_neg (fun z => q z.symm)]; simp
theorem aget_mem {kvs : List (κ × α)} {k : κ} : (aget kvs k).isSome = true ↔ k ∈ kvs.map (·.1) := by
  unfold aget
  rw [Option.isSome_map, List.find?_isSome, List.mem_map]
  constructor
  · rintro ⟨p, h1, h2⟩; exact ⟨p, h1, of_decide_eq_true h2⟩
  · rintro ⟨p, h1, h2⟩; exact ⟨p, h1, decide_eq_true h2⟩
theorem aget_of {kvs : List (κ × α)} (h : (kvs.map (·.1)).Nodup) {k : κ} {a : α} (m : (k, a) ∈ kvs) : aget kvs k = some a := by
  induction kvs with
  | nil => cases m
  | cons p r ih =>
    unfold aget
    rw [List.find?_cons]
    rw [List.map_cons, List.nodup_cons] at h
    rcases List.mem_cons.mp m with e | m
    · subst e; simp
    · have : ¬ p.1 = k := fun z => h.1 (by rw [z]; exact List.mem_map.mpr ⟨_, m, rfl⟩)
      rw [decide_eq_false this]
      exact ih h.2 m
theorem aget_in {kvs : List (κ × α)} {k : κ} {a : α} (h : aget kvs k = some a) : (k, a) ∈ kvs := by
  unfold aget at h
  cases q : kvs.find? fun kv => decide (kv.1 = k) with
  | none => rw [q] at h; cases h
  | some p =>
    rw [q] at h
    have h1 := List.mem_of_find?_eq_some q
    have h2 := List.find?_some q
    cases h
    have h3 : p.1 = k := of_decide_eq_true h2
    rw [← h3]; exact h1
theorem aput_nodup {kvs : List (κ × α)} (h : (kvs.map (·.1)).Nodup) (k : κ) (d : α) : ((aput kvs k d).map (·.1)).Nodup := by
  rw [aput_keys]
  split
  · exact h
  · rename_i q
    exact List.nodup_append.mpr ⟨h, by simp, by
      intro a ha b hb e
      rw [List.mem_singleton] at hb
      subst hb; subst e; exact q ha⟩
end
theorem inr_inj : ∀ a b : Str, (Sum.inr a : Key) = Sum.inr b → a = b := fun _ _ h => Sum.inr.inj h
theorem inl_inj : ∀ a b : Int, (Sum.inl a : Key) = Sum.inl b → a = b := fun _ _ h => Sum.inl.inj h
/-! ### comprehensions that map and filter -/
theorem lc_pure {α : Type} {ui : DI} {ug : DG} {ut : DT} {ue : DE} {vs : List Nat} {e : List Sl} {P : R → Prop} (ys : List α) (inj : α → D) (p : α → Bool) (g : α → D) (hi : ∀ Q : List D → Prop, Q (ys.map inj) → ui e Q) (hl : ys.length ≤ 1000000)
    (hb : ∀ y ∈ ys, ∀ (S : D → Prop) (T : Prop), (p y = true → S (g y)) → (p y = false → T) → ug (inj y) (wipeE e vs) fun e2 => ut e2 fun c => if c = true then ue e2 (R.keep S) else T) (k : P (.ow (.lst ((ys.filter p).map g)))) : uLc ui ug ut ue vs e P := by
  refine hi _ ⟨fun i acc => acc = ((ys.take i).filter p).map g, rfl, ?_, ?_⟩
  · rintro i x acc hx rfl
    rw [List.getElem?_map] at hx
    cases q : ys[i]? with
    | none => rw [q] at hx; cases hx
    | some y =>
      rw [q] at hx
      cases hx
      have hm := List.mem_of_getElem? q
      have hlt := get_lt q
      have ht : ys.take (i + 1) = ys.take i ++ [y] := by rw [List.take_add_one, q]; rfl
      refine hb y hm _ _ (fun hp => ⟨?_, ?_⟩) fun hp => ?_
      · have h1 : (((ys.take i).filter p).map g).length ≤ (ys.take i).length := by rw [List.length_map]; exact List.length_filter_le _ _
        have h2 : (ys.take i).length = i := by rw [List.length_take]; omega
        omega
      · show _ = ((ys.take (i + 1)).filter p).map g
        rw [ht, List.filter_append, List.map_append, List.filter_cons, hp]; rfl
      · show _ = ((ys.take (i + 1)).filter p).map g
        rw [ht, List.filter_append, List.map_append, List.filter_cons, hp]; simp
  · rintro acc rfl
    rw [List.length_map, List.take_length]
    exact k
theorem lc_map {α : Type} {ui : DI} {ug : DG} {ue : DE} {vs : List Nat} {e : List Sl} {P : R → Prop} (ys : List α) (inj : α → D) (g : α → D) (hi : ∀ Q : List D → Prop, Q (ys.map inj) → ui e Q) (hl : ys.length ≤ 1000000)
    (hb : ∀ y ∈ ys, ∀ (S : D → Prop), S (g y) → ug (inj y) (wipeE e vs) fun e2 => ue e2 (R.keep S)) (k : P (.ow (.lst (ys.map g)))) : uLc ui ug uYes ue vs e P := by
  refine lc_pure ys inj (fun _ => true) g hi hl (fun y hy S T h _ => ?_) ?_
  · have z := hb y hy S (h rfl)
    unfold uYes
    simpa using z
  · rw [List.filter_eq_self.mpr (by simp)]; exact k
end DL
/-! DL25: rules that look at the value: for x in (list, tuple, text); a[i] and in of any kind; len of anything. -/
namespace DL
open PySem L2 PyProof.Rows
section
variable {X : Cx} {b : Bg} {K : PySem.W.Frag}
/-- what a walked value must be: a list, a tuple, a text -/
def walks (K : PySem.W.Frag) (x : V) (H : Hp) (R : It → Hp → Prop) : Prop :=
  (∃ a xs, x = .ref a ∧ SqL K H a xs ∧ R (Itl K a) H) ∨ (∃ a xs, x = .ref a ∧ SqT K H a xs ∧ R (Itt K a) H) ∨ ∃ z, x = .str z ∧ R (Its z) H
theorem one_it {tg : Expr} {pins : List (Addr × Obj)} {σ : L2.St} {H : Hp} {s : Shared} {R : It → Hp → Prop} {J : It} {tn : Nat → Heap → Prop} {o : Obj} (I : Inv X pins σ H s) (hT : Turn X.prog X.w X.K tg J [s.heap.objs.size] s.heap.objs.size tn) (h0 : tn 0 (s.heap.push o)) (q : R J H) :
    PIE X pins σ tg R (.ref s.heap.objs.size) { s with heap := s.heap.push o } := by
  have J1 : Inv X pins σ H { s with heap := s.heap.push o } := I.kept (t' := s.toks) fun c u e => Heap.get?_push_of_some _ e
  refine ⟨_, _, tn, J, H, rfl, J1, hT, h0, fun c hc => ?_, q⟩
  rw [List.mem_singleton] at hc
  subst hc
  exact I.fpOk (Nat.le_refl _) (I.hok.fresh (Nat.le_refl _))
theorem pi_any {tg l : Expr} {tl : TE} (hl : PE X l tl) : PI X tg l (fun σ H R => tl σ H fun x H1 => walks X.K x H1 R) := by
  constructor
  intro pins s σ H R I h
  refine thn (hl.run pins s σ H _ I h) ?_
  rintro v s1 ⟨x, H1, I1, r1, ⟨a, xs, rfl, hq, q⟩ | ⟨a, xs, rfl, hq, q⟩ | ⟨z, rfl, q⟩⟩
  · cases r1
    obtain ⟨its, _, p, _⟩ := I1.list hq
    exact wpAny_pyIter_list p.isList (one_it I1 (turn_list a _) ⟨_, Heap.get?_push_size _ rfl, rfl, rfl⟩ q)
  · cases r1
    obtain ⟨its, _, p, _⟩ := I1.tuple hq
    exact wpAny_pyIter_tuple (show s1.heap.IsTuple a its.toArray from p) (one_it I1 (turn_tuple a _) ⟨_, Heap.get?_push_size _ rfl, rfl, rfl⟩ q)
  · obtain ⟨t, rfl⟩ := r1
    cases w : z.cps.all (· < 128) with
    | false => exact wpAny_pyIter_wide w (one_it I1 (turn_str _ z t "str_iterator" (.inr rfl)) ⟨_, Heap.get?_push_size _ rfl, rfl, rfl⟩ q)
    | true => exact wpAny_pyIter_ascii w (one_it I1 (turn_str _ z t "str_ascii_iterator" (.inl rfl)) ⟨_, Heap.get?_push_size _ rfl, rfl, rfl⟩ q)
def asQ (P : List D → Prop) : D → Prop
  | .lst xs => P xs
  | .tup xs => P xs
  | .str s => P (signs s)
  | _ => False
def uItQ (u : DE) : DI := fun e P => u e (R.keep (asQ P))
theorem di_any {tg a : Expr} {u : DE} (h : PD X b a u) : PDI X b tg a (uItQ u) := by
  obtain ⟨t, p, l⟩ := h
  refine ⟨_, pi_any p, ?_⟩
  intro L G0 H0 G H σ e P Q g hu k
  refine l L G0 H0 G H σ e _ _ g hu fun v r G1 H1 s1 hr q => ?_
  obtain ⟨d, G2, s2, hd, q⟩ := hr.freeze s1 q
  cases d with
  | lst xs =>
    obtain ⟨a, vs, rfl, ha, hr⟩ := hd
    exact .inl ⟨a, vs, rfl, SqL.of (ex_lst s2.ex ha), k _ _ G2 H1 s2 (jok_list ha hr) q⟩
  | tup xs =>
    obtain ⟨a, vs, rfl, ha, hr⟩ := hd
    exact .inr (.inl ⟨a, vs, rfl, ex_tup s2.ex ha, k _ _ G2 H1 s2 (jok_tup ha hr) q⟩)
  | str z => cases hd; exact .inr (.inr ⟨z, rfl, k _ _ G2 H1 s2 jok_str q⟩)
  | _ => exact q.elim
theorem e_asQ1 {P : List D → Prop} {xs : List D} : asQ P (.lst xs) = P xs := rfl
theorem e_asQ2 {P : List D → Prop} {xs : List D} : asQ P (.tup xs) = P xs := rfl
theorem e_asQ3 {P : List D → Prop} {s : Str} : asQ P (.str s) = P (signs s) := rfl
/-! ### a[i], in: dicts too -/
theorem op_din (hu : X.A.units + 1 < cLine) : OpR X (compareOp .In) (fun y x H Q => ∃ a o, x = .ref a ∧ DGet H a y o ∧ Q (.bl o.isSome) H) := by
  rintro pins s σ H y x iv u Q I ry rx ⟨a, o, rfl, g, q⟩
  cases rx
  exact L2.d_in hu I g ry fun s3 I3 => ⟨.bl o.isSome, H, I3, rfl, q⟩
theorem op_dnotin (hu : X.A.units + 1 < cLine) : OpR X (compareOp .NotIn) (fun y x H Q => ∃ a o, x = .ref a ∧ DGet H a y o ∧ Q (.bl (!o.isSome)) H) := by
  rintro pins s σ H y x iv u Q I ry rx ⟨a, o, rfl, g, q⟩
  cases rx
  exact L2.d_notIn hu I g ry fun s3 I3 => ⟨.bl (!o.isSome), H, I3, rfl, q⟩
theorem ix_dict (hu : X.A.units + 1 < cLine) : IxR X (fun x y H Q => ∃ a v, x = .ref a ∧ DGet H a y (some v) ∧ Q v H) := by
  rintro value slice pins s σ H x y v u Q I rx ry ⟨a, z, rfl, g, q⟩ hs
  cases rx
  have hT := dict_typeIs I g
  unfold subscriptTail
  refine wpAny_bind ?_
  rw [getitemInPython_of_ne hT.not_modules]
  refine wpAny_bind (wpAny_specialOf hT PySem.F.slot_dict_getitem.lookup ?_)
  have last : wpAny (model X.prog X.w) X.A (subscripted slice false (.ref a) u) (fun r s₃ => wpAny (model X.prog X.w) X.A (letTemporaryGo value (.ref a) r >>= fun _ => pure r) (EP X pins σ Q) X.xe s₃) X.xe s := by
    rw [hs]
    exact wpAny_operating (d_getItem hu I g ry fun w' s3 I3 rw' => wpAny_bind (wpAny_letTemporaryGo (wpAny_pure ⟨z, H, I3, rw', q⟩)))
  first
    | exact wpAny_bind (wpAny_pure (wpAny_bind last))
    | exact wpAny_pure (wpAny_bind last)
    | exact wpAny_bind last
theorem ixR_or {r r' : R2} (h : IxR X r) (h' : IxR X r') : IxR X (fun x y H Q => r x y H Q ∨ r' x y H Q) := by
  rintro value slice pins s σ H x y v u Q I rx ry (q | q) hs
  · exact h value slice pins s σ H x y v u Q I rx ry q hs
  · exact h' value slice pins s σ H x y v u Q I rx ry q hs
def fAt : D → D → (R → Prop) → Prop
  | .dk kvs, i, P => ∃ k, keyD i = some k ∧ orF (fun v => P (.sh v)) (valD kvs k)
  | d, i, P => fIx d i P
theorem dget_top {G H : Hp} {kvs : List (Key × D)} {i : D} {k : Key} {x y : V} (h1 : Top K G H (.dk kvs) x) (h2 : Top K G H i y) (hk : keyD i = some k) : ∃ a o, x = .ref a ∧ DGet H a y o ∧ ((valD kvs k = none ∧ o = none) ∨ ∃ d v, valD kvs k = some d ∧ o = some v ∧ Rep K G d v) := by
  obtain ⟨a, vs, rfl, hr, hK⟩ := h1
  obtain rfl := keyD_top hk h2
  rcases hK.get (k := k) with ⟨q1, q2⟩ | ⟨d, v, q1, q2, q3⟩
  · exact ⟨a, none, rfl, by rw [← q2]; exact .inl ⟨vs, k, hr, rfl, rfl⟩, .inl ⟨q1, rfl⟩⟩
  · exact ⟨a, some v, rfl, by rw [← q2]; exact .inl ⟨vs, k, hr, rfl, rfl⟩, .inr ⟨d, v, q1, rfl, q3⟩⟩
theorem lo_at : LO K (fun x y H Q => rIx K x y H Q ∨ (fun x y H Q => ∃ a v, x = .ref a ∧ DGet H a y (some v) ∧ Q v H) x y H Q) fAt := by
  intro b L G0 H0 G H σ e d1 d2 x y P Q g h1 h2 hf k
  unfold fAt at hf
  split at hf
  · obtain ⟨kk, hk, q⟩ := hf
    obtain ⟨w, hw, q⟩ := orF_of q
    obtain ⟨a, o, rfl, hg, ⟨z, _⟩ | ⟨d, v, z1, rfl, z3⟩⟩ := dget_top h1 h2 hk
    · rw [hw] at z; cases z
    · rw [hw] at z1
      cases z1
      exact .inr ⟨a, v, rfl, hg, k v (.sh _) G H (Stp.refl g.ex) z3 q⟩
  · exact .inl (lo_ix b L G0 H0 G H σ e _ _ x y P Q g h1 h2 hf k)
theorem d_at {a c : Expr} {u1 u2 : DE} {pos : Pos} (hu : X.A.units + 1 < cLine) (h1 : PD X b a u1) (h2 : PD X b c u2) (hs : PlainIx c := by exact fun _ _ => rfl) : PD X b (.Subscript a c pos) (uBin fAt u1 u2) := by
  obtain ⟨t1, p1, l1⟩ := h1
  obtain ⟨t2, p2, l2⟩ := h2
  exact ⟨_, pe_ix (ixR_or ix_seq (ix_dict hu)) p1 p2 hs, le_bin lo_at l1 l2⟩
theorem e_at1 {xs : List D} {i : D} {P : R → Prop} : fAt (.lst xs) i P = fIx (.lst xs) i P := rfl
theorem e_at2 {xs : List D} {i : D} {P : R → Prop} : fAt (.tup xs) i P = fIx (.tup xs) i P := rfl
theorem e_at3 {z : Str} {i : D} {P : R → Prop} : fAt (.str z) i P = fIx (.str z) i P := rfl
theorem e_at4 {kvs : List (Key × D)} {k : Int} {P : R → Prop} : fAt (.dk kvs) (.int k) P = ∃ q, some (.inl k) = some q ∧ orF (fun v => P (.sh v)) (valD kvs q) := rfl
theorem at_I {kvs : List (Key × D)} {k : Int} {d : D} {P : R → Prop} (h : valD kvs (.inl k) = some d) (p : P (.sh d)) : fAt (.dk kvs) (.int k) P := ⟨_, rfl, by rw [h]; exact p⟩
theorem at_S {kvs : List (Key × D)} {k : Str} {d : D} {P : R → Prop} (h : valD kvs (.inr k) = some d) (p : P (.sh d)) : fAt (.dk kvs) (.str k) P := ⟨_, rfl, by rw [h]; exact p⟩
def fInU (neg : Bool) (d1 d2 : D) (P : R → Prop) : Prop := match d2 with
  | .dk kvs => ∃ k, keyD d1 = some k ∧ P (.sh (.bl (if neg then (valD kvs k).isNone else (valD kvs k).isSome)))
  | _ => if neg then fNotIn d1 d2 P else fIn d1 d2 P
theorem lo_inU : LO K (fun x y H Q => (rIn K false x y H Q ∨ (fun x y H Q => ∃ (c : Nat) (z : Str), x = .str ⟨#[c]⟩ ∧ y = .str z ∧ Q (.bl (decide (c ∈ z.cps.toList))) H) x y H Q) ∨ (fun y x H Q => ∃ a o, x = .ref a ∧ DGet H a y o ∧ Q (.bl o.isSome) H) x y H Q) (fInU false) := by
  intro b L G0 H0 G H σ e d1 d2 x y P Q g h1 h2 hf k
  unfold fInU at hf
  split at hf
  · obtain ⟨kk, hk, q⟩ := hf
    obtain ⟨a, o, rfl, hg, ⟨z, rfl⟩ | ⟨d, v, z1, rfl, z3⟩⟩ := dget_top h2 h1 hk
    · rw [z] at q
      exact .inr ⟨a, none, rfl, hg, k _ (.sh (.bl false)) G H (Stp.refl g.ex) rfl q⟩
    · rw [z1] at q
      exact .inr ⟨a, some v, rfl, hg, k _ (.sh (.bl true)) G H (Stp.refl g.ex) rfl q⟩
  · exact .inl (lo_in b L G0 H0 G H σ e _ _ x y P Q g h1 h2 hf k)
theorem lo_notinU : LO K (fun x y H Q => (rIn K true x y H Q ∨ (fun x y H Q => ∃ (c : Nat) (z : Str), x = .str ⟨#[c]⟩ ∧ y = .str z ∧ Q (.bl (!decide (c ∈ z.cps.toList))) H) x y H Q) ∨ (fun y x H Q => ∃ a o, x = .ref a ∧ DGet H a y o ∧ Q (.bl (!o.isSome)) H) x y H Q) (fInU true) := by
  intro b L G0 H0 G H σ e d1 d2 x y P Q g h1 h2 hf k
  unfold fInU at hf
  split at hf
  · obtain ⟨kk, hk, q⟩ := hf
    obtain ⟨a, o, rfl, hg, ⟨z, rfl⟩ | ⟨d, v, z1, rfl, z3⟩⟩ := dget_top h2 h1 hk
    · rw [z] at q
      exact .inr ⟨a, none, rfl, hg, k _ (.sh (.bl true)) G H (Stp.refl g.ex) rfl q⟩
    · rw [z1] at q
      exact .inr ⟨a, some v, rfl, hg, k _ (.sh (.bl false)) G H (Stp.refl g.ex) rfl q⟩
  · exact .inl (lo_notin b L G0 H0 G H σ e _ _ x y P Q g h1 h2 hf k)
theorem d_inU {a c : Expr} {u1 u2 : DE} {pos : Pos} (hu : X.A.units + 1 < cLine) (h1 : PD X b a u1) (h2 : PD X b c u2) (hm : behindInMarks .In c = false := by with_unfolding_all rfl) : PD X b (.Compare a [.In] [c] pos) (uBin (fInU false) u1 u2) := d_cmp (opR_or (opR_or op_in_seq op_in_sign) (op_din hu)) lo_inU hm h1 h2
theorem dt_inU {a c : Expr} {u1 u2 : DE} {pos : Pos} (hu : X.A.units + 1 < cLine) (h1 : PD X b a u1) (h2 : PD X b c u2) (hm : behindInMarks .In c = false := by with_unfolding_all rfl) : PDT X b (.Compare a [.In] [c] pos) (uTest (uBin (fInU false) u1 u2)) := dt_cmp (opR_or (opR_or op_in_seq op_in_sign) (op_din hu)) lo_inU hm h1 h2
theorem d_notinU {a c : Expr} {u1 u2 : DE} {pos : Pos} (hu : X.A.units + 1 < cLine) (h1 : PD X b a u1) (h2 : PD X b c u2) (hm : behindInMarks .NotIn c = false := by with_unfolding_all rfl) : PD X b (.Compare a [.NotIn] [c] pos) (uBin (fInU true) u1 u2) := d_cmp (opR_or (opR_or op_notIn_seq op_notIn_sign) (op_dnotin hu)) lo_notinU hm h1 h2
theorem dt_notinU {a c : Expr} {u1 u2 : DE} {pos : Pos} (hu : X.A.units + 1 < cLine) (h1 : PD X b a u1) (h2 : PD X b c u2) (hm : behindInMarks .NotIn c = false := by with_unfolding_all rfl) : PDT X b (.Compare a [.NotIn] [c] pos) (uTest (uBin (fInU true) u1 u2)) := dt_cmp (opR_or (opR_or op_notIn_seq op_notIn_sign) (op_dnotin hu)) lo_notinU hm h1 h2
theorem e_in1 {d : D} {xs : List D} {P : R → Prop} : fInU false d (.lst xs) P = fIn d (.lst xs) P := rfl
theorem e_in2 {d : D} {xs : List D} {P : R → Prop} : fInU false d (.tup xs) P = fIn d (.tup xs) P := rfl
theorem e_in3 {d : D} {z : Str} {P : R → Prop} : fInU false d (.str z) P = fIn d (.str z) P := rfl
theorem e_nin1 {d : D} {xs : List D} {P : R → Prop} : fInU true d (.lst xs) P = fNotIn d (.lst xs) P := rfl
theorem e_nin2 {d : D} {xs : List D} {P : R → Prop} : fInU true d (.tup xs) P = fNotIn d (.tup xs) P := rfl
theorem e_nin3 {d : D} {z : Str} {P : R → Prop} : fInU true d (.str z) P = fNotIn d (.str z) P := rfl
theorem in_I {kvs : List (Key × D)} {k : Int} {P : R → Prop} (p : P (.sh (.bl (valD kvs (.inl k)).isSome))) : fInU false (.int k) (.dk kvs) P := ⟨_, rfl, p⟩
theorem in_S {kvs : List (Key × D)} {k : Str} {P : R → Prop} (p : P (.sh (.bl (valD kvs (.inr k)).isSome))) : fInU false (.str k) (.dk kvs) P := ⟨_, rfl, p⟩
theorem nin_I {kvs : List (Key × D)} {k : Int} {P : R → Prop} (p : P (.sh (.bl (valD kvs (.inl k)).isNone))) : fInU true (.int k) (.dk kvs) P := ⟨_, rfl, p⟩
theorem nin_S {kvs : List (Key × D)} {k : Str} {P : R → Prop} (p : P (.sh (.bl (valD kvs (.inr k)).isNone))) : fInU true (.str k) (.dk kvs) P := ⟨_, rfl, p⟩
/-! ### methods of a list that only look -/
def uML (f : D → D → (R → Prop) → Prop) (uo u : DE) : DE := fun e P => uo e fun r1 => (∃ xs, r1.look = .lst xs) ∧ u e fun r2 => f r1.look r2.look P
theorem le_ml {r : V → List V → Hp → VK → Prop} {f : D → D → (R → Prop) → Prop} {t1 t2 : TE} {u1 u2 : DE} (h : LM K r f) (h1 : LE K b t1 u1) (h2 : LE K b t2 u2) : LE K b (tBM K "list" r t1 (tCons t2 tNil)) (uML f u1 u2) := by
  intro L G0 H0 G H σ e P Q g hu k
  refine h1 L G0 H0 G H σ e _ _ g hu fun v1 r1 G1 H1 s1 hr1 ⟨⟨xs, hx⟩, q1⟩ => ?_
  have g1 := g.step s1
  have t1 := hr1.top g1
  have t1' := t1
  rw [hx] at t1'
  obtain ⟨a, vs, rfl, ha, _⟩ := t1'
  refine ⟨Or.inl ⟨rfl, vs, SqL.of ha⟩, ?_⟩
  refine h2 L G0 H0 G1 H1 σ e _ _ g1 q1 fun v2 r2 G2 H2 s2 hr2 q2 => ?_
  have g2 := g1.step s2
  refine h b L G0 H0 G2 H2 σ e _ _ _ _ P Q g2 ((hr1.step s2).top g2) (hr2.top g2) q2 fun v r G' H' s hr hp => ?_
  exact k v r G' H' ((s1.trans s2).trans s) (hr.back fun a hb z => s1.back a hb (s2.back a hb z)) hp
def fCount (d1 d2 : D) (P : R → Prop) : Prop := ∃ (zs : List Str) (k : Str), d1 = .lst (zs.map .str) ∧ d2 = .str k ∧ P (.sh (.int (zs.count k : Nat)))
theorem lm_count : LM K (rCntS K) fCount := by
  rintro b L G0 H0 G H σ e d1 d2 x y P Q g h1 h2 ⟨zs, z, rfl, rfl, p⟩ k
  obtain ⟨a, vs, rfl, ha, hr⟩ := h1
  cases h2
  rw [repL_strs hr] at ha
  exact ⟨a, zs, z, rfl, rfl, SqL.of ha, k _ (.sh (.int _)) G H (Stp.refl g.ex) rfl p⟩
theorem d_count {o a : Expr} {uo u : DE} {apos pos : Pos} (ho : PD X b o uo) (h : PD X b a u)
    (hf : ∀ {to te : TE}, PE X o to → PE X a te → PE X (.Call (.Attribute o "count" apos) [a] [] pos) (tBM X.K "list" (rCntS X.K) to (tCons te tNil)) := by exact fun h1 h2 => pe_bm PySem.F.plainAttrs_list PySem.F.slot_list_count PySem.F.type_list_count mt_lcountS h1 (pa_cons h2 pa_nil)) :
    PD X b (.Call (.Attribute o "count" apos) [a] [] pos) (uML fCount uo u) := by
  obtain ⟨t1, p1, l1⟩ := ho
  obtain ⟨t2, p2, l2⟩ := h
  exact ⟨_, hf p1 p2, le_ml lm_count l1 l2⟩
end
end DL
/-! DL26: plain tools: loops over typed lists; sides. -/
namespace DL
open PySem L2 PyProof.Rows
theorem for_pre {α : Type} {ui : DI} {ug : DG} {ub : DS} {DD : DEnds} {e : List Sl} (ys : List α) (inj : α → D) (W : List α → List Sl → Prop) (hi : ∀ Q : List D → Prop, Q (ys.map inj) → ui e Q) (h0 : W [] e)
    (hs : ∀ (pre : List α) (y : α) (post : List α), ys = pre ++ y :: post → ∀ e', W pre e' → ug (inj y) e' fun e2 => ub { DD with nx := W (pre ++ [y]), ct := W (pre ++ [y]), bk := DD.nx } e2) (hd : ∀ e', W ys e' → DD.nx e') : uFor ui ug ub DD e := by
  refine hi _ ⟨fun i e' => W (ys.take i) e', h0, ?_, ?_⟩
  · rintro i x e' hx w
    rw [List.getElem?_map] at hx
    cases q : ys[i]? with
    | none => rw [q] at hx; cases hx
    | some y =>
      rw [q] at hx
      cases hx
      have hlt := get_lt q
      have ht : ys.take (i + 1) = ys.take i ++ [y] := by rw [List.take_add_one, q]; rfl
      have hy : ys[i] = y := by rw [List.getElem?_eq_getElem hlt] at q; exact Option.some.inj q
      have hd : ys = ys.take i ++ y :: ys.drop (i + 1) := by
        rw [← hy, ← List.drop_eq_getElem_cons hlt, List.take_append_drop]
      have z := hs (ys.take i) y (ys.drop (i + 1)) hd e' w
      rw [← ht] at z
      exact z
  · intro e' w
    rw [List.length_map, List.take_length] at w
    exact hd e' w
/-- a loop that only changes what it says -/
theorem for_nums {ui : DI} {ug : DG} {ub : DS} {DD : DEnds} {e : List Sl} (n : Nat) (W : Nat → List Sl → Prop) (hi : ∀ Q : List D → Prop, Q (nums 0 n) → ui e Q) (h0 : W 0 e)
    (hs : ∀ i, i < n → ∀ e', W i e' → ug (.int (i : Int)) e' fun e2 => ub { DD with nx := W (i + 1), ct := W (i + 1), bk := DD.nx } e2) (hd : ∀ e', W n e' → DD.nx e') : uFor ui ug ub DD e := by
  refine hi _ ⟨W, h0, ?_, ?_⟩
  · rintro i x e' hx w
    obtain ⟨h1, rfl⟩ := nums_get' hx
    exact hs i h1 e' w
  · intro e' w
    rw [nums_len] at w
    exact hd e' w
theorem rng1 {e : List Sl} {P : List D → Prop} {ua : DA} (n : Nat) (hn : n ≤ 1000000) (h : ∀ Q : List D → Prop, Q [.int (n : Int)] → ua e Q) (p : P (nums 0 n)) : uR1 ua e P := h _ ⟨n, rfl, by omega, by omega, by rw [Int.toNat_natCast]; exact p⟩
/-- a comprehension whose elements are drawn -/
theorem lc_any {α : Type} {ui : DI} {ug : DG} {ue : DE} {vs : List Nat} {e : List Sl} {P : R → Prop} (G : List D → Prop) (mk : α → D) (p : α → Prop) (hi : ∀ Q : List D → Prop, (∀ xs, G xs → Q xs) → ui e Q) (hl : ∀ xs, G xs → xs.length ≤ 1000000)
    (hb : ∀ xs, G xs → ∀ x ∈ xs, ∀ S : D → Prop, (∀ y, p y → S (mk y)) → ug x (wipeE e vs) fun e2 => ue e2 (R.keep S)) (k : ∀ xs, G xs → ∀ ys : List α, ys.length = xs.length → (∀ y ∈ ys, p y) → P (.ow (.lst (ys.map mk)))) : uLc ui ug uYes ue vs e P := by
  refine hi _ fun xs g => ⟨fun i acc => ∃ ys : List α, acc = ys.map mk ∧ ys.length = i ∧ ∀ y ∈ ys, p y, ⟨[], rfl, rfl, by simp⟩, ?_, ?_⟩
  · rintro i x acc hx ⟨ys, rfl, h1, h2⟩
    have hlt := get_lt hx
    have hg := hl xs g
    have z := hb xs g x (List.mem_of_getElem? hx) (fun d => (ys.map mk).length < 1000000 ∧ ∃ ys', ys.map mk ++ [d] = ys'.map mk ∧ ys'.length = i + 1 ∧ ∀ y ∈ ys', p y) fun y hy => ⟨by rw [List.length_map]; omega, ys ++ [y], by simp, by simp [h1], fun w hw => by
      rcases List.mem_append.mp hw with hw | hw
      · exact h2 w hw
      · rw [List.mem_singleton.mp hw]; exact hy⟩
    unfold uYes
    simpa using z
  · rintro acc ⟨ys, rfl, h1, h2⟩
    exact k xs g ys h1 h2
theorem lc_nums {α : Type} {ui : DI} {ug : DG} {ue : DE} {vs : List Nat} {e : List Sl} {P : R → Prop} (N : Nat) (mk : α → D) (p : α → Prop) (hi : ∀ Q : List D → Prop, (∀ n, n ≤ N → Q (nums 0 n)) → ui e Q) (hN : N ≤ 1000000)
    (hb : ∀ i, i < N → ∀ S : D → Prop, (∀ y, p y → S (mk y)) → ug (.int (i : Int)) (wipeE e vs) fun e2 => ue e2 (R.keep S)) (k : ∀ ys : List α, ys.length ≤ N → (∀ y ∈ ys, p y) → P (.ow (.lst (ys.map mk)))) : uLc ui ug uYes ue vs e P := by
  refine lc_any (fun xs => ∃ n, n ≤ N ∧ xs = nums 0 n) mk p (fun Q q => hi Q fun n hn => q _ ⟨n, hn, rfl⟩) ?_ ?_ ?_
  · rintro xs ⟨n, hn, rfl⟩; rw [nums_len]; omega
  · rintro xs ⟨n, hn, rfl⟩ x hx S hS
    obtain ⟨i, hi⟩ := List.getElem?_of_mem hx
    obtain ⟨h1, rfl⟩ := nums_get' hi
    exact hb i (by omega) S hS
  · rintro xs ⟨n, hn, rfl⟩ ys h1 h2
    rw [nums_len] at h1
    exact k ys (by omega) h2
theorem for_numsN {ui : DI} {ug : DG} {ub : DS} {DD : DEnds} {e : List Sl} (N : Nat) (W : Nat → List Sl → Prop) (hi : ∀ Q : List D → Prop, (∀ n, n ≤ N → Q (nums 0 n)) → ui e Q) (h0 : W 0 e)
    (hs : ∀ i, i < N → ∀ e', W i e' → ug (.int (i : Int)) e' fun e2 => ub { DD with nx := W (i + 1), ct := W (i + 1), bk := DD.nx } e2) (hd : ∀ n, n ≤ N → ∀ e', W n e' → DD.nx e') : uFor ui ug ub DD e := by
  refine hi _ fun n hn => ⟨W, h0, ?_, ?_⟩
  · rintro i x e' hx w
    obtain ⟨h1, rfl⟩ := nums_get' hx
    exact hs i (by omega) e' w
  · intro e' w
    rw [nums_len] at w
    exact hd n hn e' w
/-- a comprehension that keeps drawn items -/
theorem lc_sub {α : Type} {ui : DI} {ug : DG} {ut : DT} {ue : DE} {vs : List Nat} {e : List Sl} {P : R → Prop} (ys : List α) (inj : α → D) (hi : ∀ Q : List D → Prop, Q (ys.map inj) → ui e Q) (hl : ys.length ≤ 1000000)
    (hb : ∀ y ∈ ys, ∀ (S : D → Prop) (T : Prop), S (inj y) → T → ug (inj y) (wipeE e vs) fun e2 => ut e2 fun c => if c = true then ue e2 (R.keep S) else T) (k : ∀ zs : List α, zs.Sublist ys → P (.ow (.lst (zs.map inj)))) : uLc ui ug ut ue vs e P := by
  refine hi _ ⟨fun i acc => ∃ zs : List α, acc = zs.map inj ∧ zs.Sublist (ys.take i), ⟨[], rfl, by simp⟩, ?_, ?_⟩
  · rintro i x acc hx ⟨zs, rfl, h1⟩
    rw [List.getElem?_map] at hx
    cases q : ys[i]? with
    | none => rw [q] at hx; cases hx
    | some y =>
      rw [q] at hx
      cases hx
      have hlt := get_lt q
      have ht : ys.take (i + 1) = ys.take i ++ [y] := by rw [List.take_add_one, q]; rfl
      have hz := h1.length_le
      have hz2 : (ys.take i).length ≤ ys.length := by rw [List.length_take]; omega
      refine hb y (List.mem_of_getElem? q) _ _ ⟨by rw [List.length_map]; rw [List.length_take] at hz; omega, zs ++ [y], by simp, ?_⟩ ⟨zs, rfl, ?_⟩
      · rw [ht]; exact h1.append (List.Sublist.refl _)
      · rw [ht]; exact h1.trans (List.sublist_append_left _ _)
  · rintro acc ⟨zs, rfl, h1⟩
    rw [List.length_map, List.take_length] at h1
    exact k zs h1
theorem perm_of_map {α β : Type} {f : α → β} : ∀ {ys : List β} {l : List α}, ys.Perm (l.map f) → ∃ l' : List α, l'.Perm l ∧ ys = l'.map f := by
  intro ys l h
  generalize hm : l.map f = m at h
  induction h generalizing l with
  | nil => exact ⟨[], by rw [List.map_eq_nil_iff.mp hm], rfl⟩
  | cons a _ ih =>
    obtain ⟨x, r, rfl, rfl, hr⟩ := List.map_eq_cons_iff.mp hm
    obtain ⟨l', h1, rfl⟩ := ih hr
    exact ⟨x :: l', h1.cons x, rfl⟩
  | swap a b r =>
    obtain ⟨x, r1, rfl, rfl, hr⟩ := List.map_eq_cons_iff.mp hm
    obtain ⟨y, r2, rfl, rfl, hq⟩ := List.map_eq_cons_iff.mp hr
    subst hq
    exact ⟨y :: x :: r2, List.Perm.swap _ _ _, rfl⟩
  | trans _ _ ih1 ih2 =>
    obtain ⟨l2, h1, rfl⟩ := ih2 hm
    obtain ⟨l3, h2, rfl⟩ := ih1 rfl
    exact ⟨l3, h2.trans h1, rfl⟩
/-! ### data that may be compared -/
def okN : Nat → D → Bool
  | _, .non => true
  | _, .bl _ => true
  | _, .int _ => true
  | _, .str s => s.cps.all (· < 0x110000)
  | n + 1, .lst xs => xs.all (okN n)
  | n + 1, .tup xs => xs.all (okN n)
  | _, _ => false
theorem okN_py : ∀ (n : Nat) (d : D), okN n d = true → pure? d = true ∧ PyData.canLay0 (toPy d) = true ∧ PyData.depth (toPy d) ≤ n := by
  intro n
  induction n with
  | zero =>
    intro d h
    cases d <;> first | exact ⟨rfl, rfl, Nat.le_refl _⟩ | exact ⟨rfl, h, Nat.le_refl _⟩ | cases h
  | succ n ih =>
    have all : ∀ xs : List D, xs.all (okN n) = true → pureL xs = true ∧ PyData.canLayAll0 (toPyL xs) = true ∧ PyData.depthAll (toPyL xs) ≤ n := by
      intro xs
      induction xs with
      | nil => intro _; exact ⟨rfl, rfl, Nat.zero_le _⟩
      | cons x xs ih2 =>
        intro h
        rw [List.all_cons, Bool.and_eq_true] at h
        obtain ⟨a1, a2, a3⟩ := ih x h.1
        obtain ⟨b1, b2, b3⟩ := ih2 h.2
        refine ⟨?_, ?_, ?_⟩
        · show (pure? x && pureL xs) = true
          rw [a1, b1]; rfl
        · show (PyData.canLay0 (toPy x) && PyData.canLayAll0 (toPyL xs)) = true
          rw [a2, b2]; rfl
        · show max (PyData.depth (toPy x)) (PyData.depthAll (toPyL xs)) ≤ n
          omega
    intro d h
    cases d with
    | lst xs =>
      obtain ⟨h1, h2, h3⟩ := all xs h
      refine ⟨h1, h2, ?_⟩
      show PyData.depthAll (toPyL xs) + 1 ≤ n + 1
      omega
    | tup xs =>
      obtain ⟨h1, h2, h3⟩ := all xs h
      refine ⟨h1, h2, ?_⟩
      show PyData.depthAll (toPyL xs) + 1 ≤ n + 1
      omega
    | non => exact ⟨rfl, rfl, Nat.zero_le _⟩
    | bl _ => exact ⟨rfl, rfl, Nat.zero_le _⟩
    | int _ => exact ⟨rfl, rfl, Nat.zero_le _⟩
    | str _ => exact ⟨rfl, h, Nat.zero_le _⟩
    | _ => cases h
theorem okPy_N {n : Nat} {d : D} (h : okN n d = true) (hn : n ≤ 64) : okPy d := by
  obtain ⟨h1, h2, h3⟩ := okN_py n d h
  refine ⟨h1, ?_⟩
  show (PyData.canLay0 (toPy d) && decide (PyData.depth (toPy d) ≤ 64)) = true
  rw [h2, decide_eq_true (by omega)]; rfl
theorem eqv_self {n : Nat} {d : D} (h : okN n d = true) : PyData.eqv (toPy d) (toPy d) = true := SeqAt.eqv_refl _ (okN_py n d h).2.1
/-- d == d, d != d -/
theorem eq_self {n : Nat} {d : D} {P : R → Prop} (h : okN n d = true) (hn : n ≤ 64) (p : P (.sh (.bl true))) : fEq d d P := by
  unfold fEq
  cases q : eqF d d with
  | none => exact ⟨okPy_N h hn, okPy_N h hn, by rw [eqv_self h]; exact p⟩
  | some c =>
    have : c = true := by
      cases d <;> first | (cases q; done) | (simp [eqF] at q; exact q.symm) | (simp [eqF] at q; exact q)
    subst this
    exact p
theorem ne_self {n : Nat} {d : D} {P : R → Prop} (h : okN n d = true) (hn : n ≤ 64) (p : P (.sh (.bl false))) : fNe d d P := by
  unfold fNe
  cases q : eqF d d with
  | none => exact ⟨okPy_N h hn, okPy_N h hn, by rw [eqv_self h]; exact p⟩
  | some c =>
    have : c = true := by
      cases d <;> first | (cases q; done) | (simp [eqF] at q; exact q.symm) | (simp [eqF] at q; exact q)
    subst this
    exact p
theorem blkE {X : Cx} {scope : Scope} {own : List (Str × Nat)} {N : List Str} {sc : Scope} (e1 : X.N = N) (e2 : X.env.scope = sc) (h : blkC N sc scope own = true) : blkC X.N X.env.scope scope own = true := by
  rw [e1, e2]; exact h
def rlS (scope psc : Scope) : Scope := { scope with names := scope.names.map fun (n, k) => if (k == .free && psc.kind == .function && psc.names.lookup n == some .cell) then (n, .cell) else (n, k) }
theorem relabel_rl (scope : Scope) (env : Env) : relabel scope env = rlS scope env.scope := rfl
end DL
/-! DL27: plain mathematics of sums of lists of texts. -/
namespace Tm
open PySem L2 DL PyProof.Rows
/-- the texts that occur in an odd number of the rows -/
def oddIn (rows : List (List Str)) (z : Str) : Bool := decide ((rows.filter fun r => decide (z ∈ r)).length % 2 = 1)
def sumR (rows : List (List Str)) : List Str := (setS rows.flatten).filter (oddIn rows)
def rowD (r : Bool × List Str) : D := if r.1 then .lst (r.2.map .str) else .tup (r.2.map .str)
theorem oddIn_snoc (rows : List (List Str)) (r : List Str) (z : Str) : oddIn (rows ++ [r]) z = if z ∈ r then !oddIn rows z else oddIn rows z := by
  unfold oddIn
  rw [List.filter_append, List.length_append]
  by_cases h : z ∈ r
  · rw [if_pos h, List.filter_cons, if_pos (decide_eq_true h)]
    simp only [List.filter_nil, List.length_cons, List.length_nil, Nat.zero_add]
    rw [Bool.eq_iff_iff]
    simp
    omega
  · rw [if_neg h, List.filter_cons, if_neg (by simp [h])]
    rfl
theorem oddIn_out {rows : List (List Str)} {z : Str} (h : z ∉ rows.flatten) : oddIn rows z = false := by
  unfold oddIn
  have e : (rows.filter fun r => decide (z ∈ r)) = [] := List.filter_eq_nil_iff.mpr fun r hr hz => h (List.mem_flatten.mpr ⟨r, hr, of_decide_eq_true hz⟩)
  rw [e]; rfl
def togS (kvs : List (Str × Bool)) (z : Str) : List (Str × Bool) := aput kvs z (!(aget kvs z).getD false)
theorem togS_get (kvs : List (Str × Bool)) (z y : Str) : aget (togS kvs z) y = if y = z then some (!(aget kvs z).getD false) else aget kvs y := aget_put _ _ _ _
theorem togs_get : ∀ (ys : List Str) (kvs : List (Str × Bool)) (y : Str), ys.Nodup → aget (ys.foldl togS kvs) y = if y ∈ ys then some (!(aget kvs y).getD false) else aget kvs y
  | [], kvs, y, _ => by simp
  | z :: ys, kvs, y, h => by
    rw [List.nodup_cons] at h
    rw [List.foldl_cons, togs_get ys _ y h.2, togS_get]
    by_cases h1 : y = z
    · subst h1
      rw [if_neg h.1, if_pos rfl, if_pos List.mem_cons_self]
    · rw [if_neg h1]
      by_cases h2 : y ∈ ys
      · rw [if_pos h2, if_pos (List.mem_cons_of_mem _ h2)]
      · rw [if_neg h2, if_neg (by simp [h1, h2])]
theorem togS_nodup {kvs : List (Str × Bool)} (h : (kvs.map (·.1)).Nodup) (z : Str) : ((togS kvs z).map (·.1)).Nodup := aput_nodup h _ _
theorem togs_nodup : ∀ (ys : List Str) {kvs : List (Str × Bool)}, (kvs.map (·.1)).Nodup → ((ys.foldl togS kvs).map (·.1)).Nodup
  | [], _, h => h
  | z :: ys, _, h => togs_nodup ys (togS_nodup h z)
theorem togS_len (kvs : List (Str × Bool)) (z : Str) : (togS kvs z).length ≤ kvs.length + 1 := by
  unfold togS aput
  split <;> simp
theorem togs_len : ∀ (ys : List Str) (kvs : List (Str × Bool)), (ys.foldl togS kvs).length ≤ kvs.length + ys.length
  | [], _ => by simp
  | z :: ys, kvs => by
    have h1 := togs_len ys (togS kvs z)
    have h2 := togS_len kvs z
    rw [List.foldl_cons, List.length_cons]
    omega
def sumK (rows : List (List Str)) : List (Str × Bool) := rows.foldl (fun kvs r => (setS r).foldl togS kvs) []
theorem sumK_snoc (rows : List (List Str)) (r : List Str) : sumK (rows ++ [r]) = (setS r).foldl togS (sumK rows) := by unfold sumK; rw [List.foldl_append]; rfl
theorem nil_or_snoc {α : Type} (l : List α) : l = [] ∨ ∃ m a, l = m ++ [a] := by
  cases h : l.reverse with
  | nil => exact .inl (List.reverse_eq_nil_iff.mp h)
  | cons a t => exact .inr ⟨t.reverse, a, by rw [← List.reverse_reverse l, h, List.reverse_cons]⟩
theorem snoc_ind {α : Type} {p : List α → Prop} (h0 : p []) (h1 : ∀ l a, p l → p (l ++ [a])) : ∀ l, p l := by
  have : ∀ n (l : List α), l.length = n → p l := by
    intro n
    induction n with
    | zero => intro l h; rw [List.length_eq_zero_iff.mp h]; exact h0
    | succ n ih =>
      intro l h
      rcases nil_or_snoc l with rfl | ⟨m, a, rfl⟩
      · cases h
      · exact h1 m a (ih m (by simpa using h))
  exact fun l => this _ l rfl
theorem sumK_ok (rows : List (List Str)) : ((sumK rows).map (·.1)).Nodup ∧ (∀ z, z ∈ (sumK rows).map (·.1) ↔ z ∈ rows.flatten) ∧ ∀ z, aget (sumK rows) z = if z ∈ rows.flatten then some (oddIn rows z) else none := by
  have key : ∀ z, aget (sumK rows) z = if z ∈ rows.flatten then some (oddIn rows z) else none := by
    refine snoc_ind (p := fun rows => ∀ z, aget (sumK rows) z = if z ∈ rows.flatten then some (oddIn rows z) else none) (fun z => rfl) (fun rows r ih z => ?_) rows
    rw [sumK_snoc, togs_get _ _ _ (setS_nodup r), ih z, oddIn_snoc]
    have e : z ∈ [r].flatten ↔ z ∈ r := by simp
    have ea : z ∈ (rows ++ [r]).flatten ↔ z ∈ rows.flatten ∨ z ∈ [r].flatten := by rw [List.flatten_append, List.mem_append]
    by_cases h1 : z ∈ r
    · rw [if_pos (setS_mem.mpr h1), if_pos (ea.mpr (.inr (e.mpr h1))), if_pos h1]
      by_cases h2 : z ∈ rows.flatten
      · rw [if_pos h2]; rfl
      · rw [if_neg h2, oddIn_out h2]; rfl
    · rw [if_neg (fun q => h1 (setS_mem.mp q)), if_neg h1]
      by_cases h2 : z ∈ rows.flatten
      · rw [if_pos h2, if_pos (ea.mpr (.inl h2))]
      · rw [if_neg h2, if_neg (fun q => (ea.mp q).elim h2 fun q => h1 (e.mp q))]
  refine ⟨?_, fun z => ?_, key⟩
  · refine snoc_ind (p := fun rows => ((sumK rows).map (·.1)).Nodup) .nil (fun rows r ih => ?_) rows
    rw [sumK_snoc]
    exact togs_nodup _ ih
  · rw [← aget_mem, key z]
    by_cases h : z ∈ rows.flatten
    · rw [if_pos h]; simp [h]
    · rw [if_neg h]; simp [h]
theorem sumK_sorted (rows : List (List Str)) : srtS (((sumK rows).filter (·.2)).map (·.1)) = sumR rows := by
  obtain ⟨h1, h2, h3⟩ := sumK_ok rows
  symm
  refine srtS_eq ?_ ((setS_pw _).filter _)
  refine perm_mem ((setS_nodup _).filter _) ?_ fun y => ?_
  · exact h1.sublist (List.filter_sublist.map _)
  · rw [sumR, List.mem_filter, setS_mem, List.mem_map]
    constructor
    · rintro ⟨m1, m2⟩
      have := h3 y
      rw [if_pos m1] at this
      exact ⟨(y, oddIn rows y), List.mem_filter.mpr ⟨aget_in this, m2⟩, rfl⟩
    · rintro ⟨⟨y', c⟩, m, rfl⟩
      obtain ⟨m1, m2⟩ := List.mem_filter.mp m
      have m3 := aget_of h1 m1
      have m4 : y' ∈ rows.flatten := (h2 y').mp (List.mem_map.mpr ⟨_, m1, rfl⟩)
      rw [h3, if_pos m4] at m3
      exact ⟨m4, by rw [Option.some.inj m3]; exact m2⟩
theorem flat_cut {rows pre post : List (List Str)} (h : rows = pre ++ post) : (setS pre.flatten).length ≤ (setS rows.flatten).length := by
  have p1 : (setS pre.flatten).length = (dd pre.flatten).length := srtS_len _
  have p2 : (setS rows.flatten).length = (dd rows.flatten).length := srtS_len _
  rw [p1, p2]
  have q : (dd pre.flatten).Perm ((dd rows.flatten).filter fun z => decide (z ∈ pre.flatten)) := by
    refine perm_mem (dd_nodup _) ((dd_nodup _).filter _) fun y => ?_
    rw [List.mem_filter, dd_mem, dd_mem, h, List.flatten_append, List.mem_append]
    simp
    exact fun x h1 h2 => .inl ⟨x, h1, h2⟩
  rw [q.length_eq]
  exact List.length_filter_le _ _
theorem sumK_len (rows : List (List Str)) : (sumK rows).length = (setS rows.flatten).length := by
  obtain ⟨h1, h2, _⟩ := sumK_ok rows
  rw [← List.length_map (f := (·.1)) (as := sumK rows)]
  exact (perm_mem h1 (setS_nodup _) fun y => (h2 y).trans setS_mem.symm).length_eq
theorem sumR_set (rows : List (List Str)) : sumR (rows.map setS) = sumR rows := by
  have h1 : setS (rows.map setS).flatten = setS rows.flatten := by
    refine setS_uniq (setS_pw _) (setS_nodup _) fun y => ?_
    rw [setS_mem, List.mem_flatten, List.mem_flatten]
    constructor
    · rintro ⟨r, hr, hy⟩
      obtain ⟨q, hq, rfl⟩ := List.mem_map.mp hr
      exact ⟨q, hq, setS_mem.mp hy⟩
    · rintro ⟨r, hr, hy⟩
      exact ⟨_, List.mem_map.mpr ⟨r, hr, rfl⟩, setS_mem.mpr hy⟩
  have h2 : oddIn (rows.map setS) = oddIn rows := by
    funext z
    unfold oddIn
    rw [List.filter_map, List.length_map]
    congr 3
    refine congrArg List.length (List.filter_congr fun r _ => ?_)
    simp [setS_mem]
  unfold sumR
  rw [h1, h2]
theorem sumR_twice (rows : List (List Str)) : sumR (rows ++ rows) = [] := by
  unfold sumR
  refine List.filter_eq_nil_iff.mpr fun z _ => ?_
  unfold oddIn
  rw [List.filter_append, List.length_append]
  simp
  omega
theorem sumR_nil : sumR [] = [] := by
  have := sumR_twice []
  simpa using this
end Tm
/-! DL28: dict comprehensions; walks over items and values of dicts; what is looked at: a[i], o.f. -/
namespace DL
open PySem L2 PyProof.Rows
section
variable {X : Cx} {b : Bg} {K : PySem.W.Frag}
/-- {k: v for ..} -/
def uDc (ui : DI) (ug : DG) (ut : DT) (uk ue : DE) (vs : List Nat) : DE := fun e P => ui e fun xs => ∃ W : Nat → List (Key × D) → Prop, W 0 [] ∧
  (∀ (i : Nat) x acc, xs[i]? = some x → W i acc → ug x (wipeE e vs) fun e2 => ut e2 fun c => if c = true then uk e2 (fun rk => ∃ k, keyD rk.look = some k ∧ ue e2 (R.keep fun d => acc.length < 1000000 ∧ W (i + 1) (putD acc k d))) else W (i + 1) acc) ∧ ∀ acc, W xs.length acc → P (.ow (.dk acc))
theorem dcD_core {L : Lk} {G0 H0 G H : Hp} {σ : L2.St} {e : List Sl} {P : R → Prop} {Q : VK} {J : It} {xs : List D} {g : TG} {js : List Nat} {ug : DG} {tt : TT} {ut : DT} {tk te : TE} {uk ue : DE} {vs : List Nat} (hg : LG K b js g ug) (ht : LT K b tt ut) (hk : LE K b tk uk) (he : LE K b te ue) (hj : ∀ j ∈ js, j ∈ vs)
    (g1 : Good K b L G0 H0 G H σ e) (hJ : JOk K b L G J xs)
    (q : ∃ W : Nat → List (Key × D) → Prop, W 0 [] ∧ (∀ (i : Nat) x acc, xs[i]? = some x → W i acc → ug x (wipeE e vs) fun e2 => ut e2 fun c => if c = true then uk e2 (fun rk => ∃ k, keyD rk.look = some k ∧ ue e2 (R.keep fun d => acc.length < 1000000 ∧ W (i + 1) (putD acc k d))) else W (i + 1) acc) ∧ ∀ acc, W xs.length acc → P (.ow (.dk acc)))
    (k : ∀ v r G' H', Stp b [] G H G' H' → RepR K b H σ e G' H' r v → P r → Q v H') : tDc (fun _ H R => R J H) g tt tk te vs σ H Q := by
  obtain ⟨W, w0, hs, hd⟩ := q
  intro Dl hD
  have nb : b.a ≠ some Dl := g1.nb hD
  refine ⟨fun i m H' => m = xs.length - i ∧ i ≤ xs.length ∧ ∃ G' acc va, Stp b [] G H G' H' ∧ G' Dl = none ∧ H' Dl = some (.dK va) ∧ RepK K G' acc va ∧ W i acc,
    ⟨xs.length, by simp, Nat.zero_le _, G, [], [], Stp.made g1.ex hD, g1.ex.none hD, upd_same, rfl, w0⟩, ?_⟩
  rintro i m H1 ⟨rfl, hi, G', acc, va, st, hgD, hHD, hra, w⟩
  have gg := (g1.step st).wipe vs
  obtain ⟨j1, j2⟩ := hJ G' H1 st.g st.ex gg.lk i
  by_cases c : i < xs.length
  · obtain ⟨go, y⟩ := j1 xs[i] (by simp [c])
    refine .inr ⟨go, fun H' => ∃ G' acc va, Stp b [] G H G' H' ∧ G' Dl = none ∧ H' Dl = some (.dK va) ∧ RepK K G' acc va ∧ W (i + 1) acc, fun H' q => ⟨xs.length - (i + 1), by omega, rfl, by omega, q⟩, fun v H2 hy => ?_⟩
    obtain ⟨G2, s2, hx⟩ := y v H2 hy
    have g2 := gg.step s2
    refine hg L G0 H0 G2 H2 _ _ _ v _ _ g2 hx (hs i xs[i] acc (by simp [c]) w) fun σ3 e3 g3 w3 q3 => ⟨?_, ?_⟩
    · rw [w3 vs hj, wipe_wipe]
    · refine ht L G0 H0 G2 H2 σ3 e3 _ _ g3 q3 fun c3 G4 H4 s4 q4 => ?_
      have g4 := g3.step s4
      have s14 := (st.trans s2).trans s4
      have d2 : G2 Dl = none := s2.new Dl nb (by rw [hHD]; simp) hgD
      have d4 : G4 Dl = none := s4.new Dl nb (by rw [s2.fr0 nb hHD]; simp) d2
      have h4 : H4 Dl = some (.dK va) := s4.fr0 nb (s2.fr0 nb hHD)
      have r4 : RepK K G4 acc va := (hra.mono s2.g).mono s4.g
      cases c3 with
      | false => exact ⟨G4, acc, va, s14, d4, h4, r4, q4⟩
      | true =>
        refine hk L G0 H0 G4 H4 σ3 e3 _ _ g4 q4 fun v5 r5 G5 H5 s5 hr5 q5 => ?_
        obtain ⟨kk, hkk, q5⟩ := q5
        have g5 := g4.step s5
        have ek := keyD_top hkk (hr5.top g5)
        have d5 : G5 Dl = none := s5.new Dl nb (by rw [h4]; simp) d4
        have h5 : H5 Dl = some (.dK va) := s5.fr0 nb h4
        refine he L G0 H0 G5 H5 σ3 e3 _ _ g5 q5 fun v6 r6 G6 H6 s6 hr6 q6 => ?_
        obtain ⟨d, G7, s7, hd7, hl, q7⟩ := hr6.freeze s6 q6
        have d7 : G7 Dl = none := s7.new Dl nb (by rw [h5]; simp) d5
        have h7 : H6 Dl = some (.dK va) := s7.fr0 nb h5
        have ra : RepK K G7 acc va := (r4.mono s5.g).mono s7.g
        exact ⟨va, kk, ek, h7, by rw [ra.length]; exact lt_line hl, G7, putD acc kk d, _, ((s14.trans s5).trans s7).mut nb hD d7, d7, upd_same, ra.put kk hd7, q7⟩
  · have e1 : i = xs.length := by omega
    subst e1
    refine .inl ⟨j2 (Nat.le_refl _), ?_⟩
    exact k _ (.ow (.dk acc)) G' H1 st ⟨Dl, _, rfl, nb, hD, hgD, hHD, va, rfl, hra⟩ (hd acc w)
theorem d_dc {kx vx tg iter : Expr} {ifs : List Expr} {scope : Scope} {own : List (Str × Nat)} {pos : Pos} {ui : DI} {js : List Nat} {ug : DG} {ut : DT} {uk ue : DE} (hN : X.N.Nodup) (ok : blkC X.N X.env.scope scope own = true) (hj : ∀ j ∈ js, j ∈ own.map (·.2)) (hi : PDI X b tg iter ui)
    (hg : Blk X scope fun Y => PDG Y b tg js ug) (ht : Blk X scope fun Y => PDTs Y b ifs ut) (hk : Blk X scope fun Y => PD Y b kx uk) (he : Blk X scope fun Y => PD Y b vx ue) (hc : X.calm = true := by rfl) (hs : ∀ x, foldedSetIterable iter X.env x = pure x := by intro _; rfl) :
    PD X b (.DictComp kx vx [⟨tg, iter, ifs, 0⟩] scope pos) (uDc ui ug ut uk ue (own.map (·.2))) := by
  obtain ⟨wi, p1, l1⟩ := hi
  obtain ⟨g, p2, l2⟩ := blk_g hg
  obtain ⟨tt, p3, l3⟩ := blk_t ht
  obtain ⟨tk, p4, l4⟩ := blk_e hk
  obtain ⟨te, p5, l5⟩ := blk_e he
  refine ⟨_, pe_dc hc hN p1 (blkOk_by ok) p2 p3 p4 p5 hs, ?_⟩
  intro L G0 H0 G H σ e P Q gd hu k
  refine l1 L G0 H0 G H σ e _ _ gd hu fun J xs G1 H1 s1 hJ q => ?_
  exact dcD_core l2 l3 l4 l5 hj (gd.step s1) hJ q fun v r G' H' s hr hp => k v r G' H' (s1.trans s) (hr.back fun a hb z => s1.back a hb z) hp
/-! ### dicts that are walked -/
def JokW (K : PySem.W.Frag) (b : Bg) (J : Addr → Obj → List (Key × V) → It) (img : Key × D → D) : Prop :=
  ∀ {L : Lk} {G1 : Hp} {a : Addr} {od : Obj} {kvs : List (Key × D)} {vs : List (Key × V)}, (a, od, HO.dK vs) ∈ L → RepK K G1 kvs vs → JOk K b L G1 (J a od vs) (kvs.map img)
theorem jokW_keys : JokW K b Itk (fun kv => kD kv.1) := fun m hr => jok_keys m hr
theorem kD_rep {G : Hp} (k : Key) : Rep K G (kD k) (kV k) := by cases k <;> rfl
theorem jokW_items : JokW K b Iti (fun kv => .tup [kD kv.1, kv.2]) := fun {L G1 a od kvs vs} m hr G H sub ex lk i => by
  have fz := lk a od _ m
  refine ⟨fun x hx => ?_, fun hi => ⟨fz, by rw [List.length_map] at hi; rw [hr.length]; exact hi⟩⟩
  rw [List.getElem?_map] at hx
  cases e : kvs[i]? with
  | none => rw [e] at hx; cases hx
  | some p =>
    rw [e] at hx
    cases hx
    obtain ⟨k, d⟩ := p
    obtain ⟨v, hv, hd⟩ := repK_at hr e
    refine ⟨⟨fz, get_lt hv⟩, fun u H' hy => ?_⟩
    obtain ⟨T, k', v', h1, rfl, hT, rfl⟩ := hy
    rw [hv] at h1
    cases h1
    refine ⟨L2.upd G T (.tup [kV k, v]), Stp.laid ex hT, T, [kV k, v], rfl, .inl upd_same, kV k, [v], rfl, kD_rep k, v, [], rfl, ?_, rfl⟩
    exact (hd.mono sub).mono (sub_upd (ex.none hT))
theorem jokW_vals : JokW K b Itd (fun kv => kv.2) := fun {L G1 a od kvs vs} m hr G H sub ex lk i => by
  have fz := lk a od _ m
  refine ⟨fun x hx => ?_, fun hi => ⟨fz, by rw [List.length_map] at hi; rw [hr.length]; exact hi⟩⟩
  rw [List.getElem?_map] at hx
  cases e : kvs[i]? with
  | none => rw [e] at hx; cases hx
  | some p =>
    rw [e] at hx
    cases hx
    obtain ⟨k, d⟩ := p
    obtain ⟨v, hv, hd⟩ := repK_at hr e
    refine ⟨⟨fz, get_lt hv⟩, fun u H' hy => ?_⟩
    obtain ⟨rfl, k', h1⟩ := hy
    rw [hv] at h1
    cases h1
    exact ⟨G, Stp.refl ex, hd.mono sub⟩
/-- a walked dict that stands still -/
def uItW (ud : List Sl → D → Prop) (img : Key × D → D) : DI := fun e P => ∃ kvs, ud e (.dk kvs) ∧ P (kvs.map img)
abbrev WalksBy (t : TE) (wi : TI) (J : Addr → Obj → List (Key × V) → It) : Prop := ∀ σ H R, (t σ H fun x H1 => ∃ d o kvs, x = .ref d ∧ H1 d = some (.frz o (.dK kvs)) ∧ R (J d o kvs) H1) → wi σ H R
theorem le_walk {t : TE} {ud : List Sl → D → Prop} {J : Addr → Obj → List (Key × V) → It} {img : Key × D → D} {wi : TI} {Bd : It → L2.St → Hp → VK → Prop} {ub : List D → DE} (hv : LV K b t ud) (hJ : JokW K b J img) (hw : WalksBy t wi J)
    (core : ∀ (L : Lk) (G0 H0 G H : Hp) (σ : L2.St) (e : List Sl) (P : R → Prop) (Q : VK) (J : It) (xs : List D), Good K b.q L G0 H0 G H σ e → JOk K b.q L G J xs → ub xs e P → (∀ v r G' H', Stp b [] G H G' H' → RepR K b H σ e G' H' r v → P r → Q v H') → Bd J σ H Q) :
    LE K b (fun σ H Q => tLockE (fun σ H Q => wi σ H fun J H1 => Bd J σ H1 Q) σ H Q ∨ (wi σ H fun J H1 => Bd J σ H1 Q)) (fun e P => ∃ kvs, ud e (.dk kvs) ∧ ub (kvs.map img) e P) := by
  intro L G0 H0 G H σ e P Q gd hu k
  obtain ⟨kvs, hud, q⟩ := hu
  obtain ⟨v, hrep, use⟩ := hv L G0 H0 G H σ e _ gd hud
  obtain ⟨a, ws, rfl, hG, hr⟩ := hrep
  have nba : b.a ≠ some a := fun z => by
    obtain ⟨h1, _⟩ := gd.bag a z
    rw [hG] at h1; cases h1
  rcases gd.ex.old a _ hG with hH | ⟨_, od, _, hH⟩
  · refine .inl ⟨a, .dK ws, hH, trivial, fun od => ?_⟩
    have gl := gd.lock hG hH od
    refine hw _ _ _ (use _ _ _ _ _ gl.toGood0 ⟨a, od, ws, rfl, upd_same, ?_⟩)
    refine core _ _ _ _ _ _ _ P _ _ _ gl (hJ List.mem_cons_self hr) q fun v r G' H' s hr hp => ?_
    obtain ⟨h1, s'⟩ := stp_unlock s gd.ex hG hH nba
    refine ⟨h1, k v r G' _ s' ?_ hp⟩
    have hg' : G' a ≠ none := by rw [s.g _ _ hG]; simp
    refine (RepR.unlock' (L := L) (G0 := G0) (H0 := H0) hr hg').back fun c hb z => ?_
    by_cases w : c = a
    · subst w; rw [upd_same] at z; cases z
    · rw [upd_ne w] at z; exact z
  · have gl := gd.note hH
    exact .inr (hw _ _ _ (use _ _ _ _ _ gl.toGood0 ⟨a, od, ws, rfl, hH, core _ _ _ _ _ _ _ P _ _ _ gl (hJ List.mem_cons_self hr) q k⟩))
theorem d_lcW {elt tg iter : Expr} {ifs : List Expr} {scope : Scope} {own : List (Str × Nat)} {pos : Pos} {t : TE} {wi : TI} {J : Addr → Obj → List (Key × V) → It} {img : Key × D → D} {ud : List Sl → D → Prop} {js : List Nat} {ug : DG} {ut : DT} {ue : DE} (hN : X.N.Nodup) (ok : blkC X.N X.env.scope scope own = true) (hj : ∀ j ∈ js, j ∈ own.map (·.2))
    (hi : PI X tg iter wi) (hw : WalksBy t wi J) (hJ : JokW X.K b J img) (hv : LV X.K b t ud)
    (hg : Blk X scope fun Y => PDG Y b.q tg js ug) (ht : Blk X scope fun Y => PDTs Y b.q ifs ut) (he : Blk X scope fun Y => PD Y b.q elt ue) (hc : X.calm = true := by rfl) (hs : ∀ x, foldedSetIterable iter X.env x = pure x := by intro _; rfl) :
    PD X b (.ListComp elt [⟨tg, iter, ifs, 0⟩] scope pos) (uLc (uItW ud img) ug ut ue (own.map (·.2))) := by
  obtain ⟨g, p2, l2⟩ := blk_g hg
  obtain ⟨tt, p3, l3⟩ := blk_t ht
  obtain ⟨te, p4, l4⟩ := blk_e he
  have pe := pe_lc (pos := pos) hc hN hi (blkOk_by ok) p2 p3 p4 hs
  exact ⟨_, pe_or (pe_lock pe) pe, le_walk hv hJ hw fun L G0 H0 G H σ e P Q J xs gd hJ q k => lc_core l2 l3 l4 hj gd k (Stp.refl gd.ex) hJ q⟩
theorem d_dcW {kx vx tg iter : Expr} {ifs : List Expr} {scope : Scope} {own : List (Str × Nat)} {pos : Pos} {t : TE} {wi : TI} {J : Addr → Obj → List (Key × V) → It} {img : Key × D → D} {ud : List Sl → D → Prop} {js : List Nat} {ug : DG} {ut : DT} {uk ue : DE} (hN : X.N.Nodup) (ok : blkC X.N X.env.scope scope own = true) (hj : ∀ j ∈ js, j ∈ own.map (·.2))
    (hi : PI X tg iter wi) (hw : WalksBy t wi J) (hJ : JokW X.K b J img) (hv : LV X.K b t ud)
    (hg : Blk X scope fun Y => PDG Y b.q tg js ug) (ht : Blk X scope fun Y => PDTs Y b.q ifs ut) (hk : Blk X scope fun Y => PD Y b.q kx uk) (he : Blk X scope fun Y => PD Y b.q vx ue) (hc : X.calm = true := by rfl) (hs : ∀ x, foldedSetIterable iter X.env x = pure x := by intro _; rfl) :
    PD X b (.DictComp kx vx [⟨tg, iter, ifs, 0⟩] scope pos) (uDc (uItW ud img) ug ut uk ue (own.map (·.2))) := by
  obtain ⟨g, p2, l2⟩ := blk_g hg
  obtain ⟨tt, p3, l3⟩ := blk_t ht
  obtain ⟨tk, p4, l4⟩ := blk_e hk
  obtain ⟨te, p5, l5⟩ := blk_e he
  have pe := pe_dc (pos := pos) hc hN hi (blkOk_by ok) p2 p3 p4 p5 hs
  exact ⟨_, pe_or (pe_lock pe) pe, le_walk hv hJ hw fun L G0 H0 G H σ e P Q J xs gd hJ q k => dcD_core l2 l3 l4 l5 hj gd hJ q k⟩
theorem ls_walk {t : TE} {ud : List Sl → D → Prop} {J : Addr → Obj → List (Key × V) → It} {img : Key × D → D} {wi : TI} {g : TG} {js : List Nat} {ug : DG} {tb : TS} {ub : DS} (hv : LV K b t ud) (hJ : JokW K b J img) (hw : WalksBy t wi J) (hg : LG K b.q js g ug) (hb : LS K b.q tb ub) :
    LS K b (fun EE σ H => tLock (tFor wi g tb) EE σ H ∨ tFor wi g tb EE σ H) (uFor (uItW ud img) ug ub) := by
  intro L G0 H0 G H σ e DD EE gd ok hu
  obtain ⟨kvs, hud, q⟩ := hu
  obtain ⟨v, hrep, use⟩ := hv L G0 H0 G H σ e _ gd hud
  obtain ⟨a, vs, rfl, hG, hr⟩ := hrep
  have nba : b.a ≠ some a := fun z => by
    obtain ⟨h1, _⟩ := gd.bag a z
    rw [hG] at h1; cases h1
  have nm0 : NM G0 a := (nm_dk hG).back gd.stp.g
  rcases gd.ex.old a _ hG with hH | ⟨_, od, _, hH⟩
  · refine .inl ⟨a, .dK vs, hH, trivial, fun od => ?_⟩
    have gl := gd.lock hG hH od
    have nl : ∀ od' u, (a, od', u) ∉ L := fun od' u m => by
      have := gd.lk a od' u m
      rw [hH] at this; cases this
    have h0 : ∀ o, H0 a = some o → o = .dK vs := fun o h => by
      rcases gd.stp.fr a o nba nm0 h with z | ⟨od', m, _⟩
      · rw [hH] at z; exact (Option.some.inj z).symm
      · exact absurd m (nl _ _)
    have here : ∀ {G' H' : Hp} {σ' : L2.St} {e' : List Sl}, Good K b.q ((a, od, .dK vs) :: L) G H0 G' H' σ' e' → H' a = some (.frz od (.dK vs)) ∧ Good K b L G0 H0 G' (L2.upd H' a (.dK vs)) σ' e' ∧ G' a = some (.dK vs) := fun {G' H' σ' e'} g' =>
      ⟨g'.lk a od _ List.mem_cons_self, (Good.unlock (gd.xl.rebase gd.stp gd.ex) g' (g'.stp.g _ _ hG) nl h0).unbase gd.stp gd.xl, g'.stp.g _ _ hG⟩
    refine hw _ _ _ (use _ _ _ _ _ gl.toGood0 ⟨a, od, vs, rfl, upd_same, for_core hg hb gl.rebase ⟨?_, ?_, ?_, ?_⟩ (Stp.refl gl.ex) (hJ List.mem_cons_self hr) q⟩)
    · intro G' H' σ' e' g' h
      obtain ⟨h1, h2, _⟩ := here g'
      exact ⟨h1, ok.nx _ _ _ _ h2 h⟩
    · intro G' H' σ' e' v r g' hr h
      obtain ⟨h1, h2, h3⟩ := here g'
      exact ⟨h1, ok.rt _ _ _ _ _ _ h2 (hr.unlock (by rw [h3]; simp)) h⟩
    · intro G' H' σ' e' g' h
      obtain ⟨h1, h2, _⟩ := here g'
      exact ⟨h1, ok.bk _ _ _ _ h2 h⟩
    · intro G' H' σ' e' g' h
      obtain ⟨h1, h2, _⟩ := here g'
      exact ⟨h1, ok.ct _ _ _ _ h2 h⟩
  · refine .inr ?_
    have gl := gd.note hH
    have key : b.a ≠ some a → H0 a = some (.dK vs) → (a, od, HO.dK vs) ∈ L := fun nb h => by
      rcases gd.stp.fr a _ nb nm0 h with z | ⟨od', m, z⟩
      · rw [hH] at z; cases z
      · rw [hH] at z; cases z; exact m
    have ok' : EndsOk K b.q ((a, od, .dK vs) :: L) G0 H0 DD EE := ⟨fun G H σ e g h => ok.nx _ _ _ _ (Good.unnote gd.xl g key) h, fun G H σ e v r g hr h => ok.rt _ _ _ _ _ _ (Good.unnote gd.xl g key) hr h, fun G H σ e g h => ok.bk _ _ _ _ (Good.unnote gd.xl g key) h, fun G H σ e g h => ok.ct _ _ _ _ (Good.unnote gd.xl g key) h⟩
    exact hw _ _ _ (use _ _ _ _ _ gl.toGood0 ⟨a, od, vs, rfl, hH, for_core hg hb gl ok' (Stp.refl gl.ex) (hJ List.mem_cons_self hr) q⟩)
theorem ds_forW {tg iter : Expr} {body : List Stmt} {t : TE} {wi : TI} {J : Addr → Obj → List (Key × V) → It} {img : Key × D → D} {ud : List Sl → D → Prop} {js : List Nat} {ug : DG} {ub : DS} {pos : Pos} (hi : PI X tg iter wi) (hw : WalksBy t wi J) (hJ : JokW X.K b J img) (hv : LV X.K b t ud) (hg : PDG X b.q tg js ug) (hb : PDSs X b.q body ub)
    (hp : PassesOwn (model X.prog X.w) X.A X.env X.xe := by exact PassesOwn.never) (hc : X.calm = true := by rfl) (hs : ∀ x, foldedSetIterable iter X.env x = pure x := by intro _; rfl) : PDS X b (.For tg iter body [] pos) (uFor (uItW ud img) ug ub) := by
  obtain ⟨tg, p2, l2⟩ := hg
  obtain ⟨tb, p3, l3⟩ := hb
  have ps := ps_for (pos := pos) hp hc hi p2 p3 hs
  exact ⟨_, ps_or (ps_lock ps) ps, ls_walk hv hJ hw l2 l3⟩
/-! ### things looked at -/
theorem pv_at {xs : List D} {a c : Expr} {ud : List Sl → D → Prop} {pos : Pos} (n : Nat) {j : Nat} {p : Pos} (h : PV X b a ud) (hs : PlainIx (.Constant (.int n) j p) := by exact fun _ _ => rfl) : PV X b (.Subscript a (.Constant (.int n) j p) pos) (fun e d => ∃ xs, ud e (.tup xs) ∧ xs[n]? = some d) := by
  obtain ⟨t, p1, l1⟩ := h
  refine ⟨_, pe_ix ix_seq p1 pe_int hs, ?_⟩
  rintro L G0 H0 G H σ e d g ⟨xs, hu, hd⟩
  obtain ⟨v, hv, use⟩ := l1 L G0 H0 G H σ e _ g hu
  obtain ⟨a, vs, rfl, ha, hr⟩ := hv
  obtain ⟨w, hw, hw2⟩ := hr.get hd
  refine ⟨w, hw2, fun L' G0' H0' H' Q g' q => use L' G0' H0' H' _ g' ?_⟩
  exact .inr (.inl ⟨a, vs, n, w, rfl, rfl, ex_tup g'.ex ha, atI_nat hw, q⟩)
theorem pv_fld {C : Addr} {f : Str} {a : Expr} {ud : List Sl → D → Prop} {pos : Pos} (c : Cls X.K C) (n : NoAttr X.K C f) (h : PV X b a ud) (hb : attributeBase a f X.env (eval a X.env) = eval a X.env := by rfl) : PV X b (.Attribute a f pos) (fun e d => ∃ fs, ud e (.obj C fs) ∧ fs.lookup f = some d) := by
  obtain ⟨t, p1, l1⟩ := h
  refine ⟨_, pe_fld p1 hb, ?_⟩
  rintro L G0 H0 G H σ e d g ⟨fs, hu, hd⟩
  obtain ⟨v, hv, use⟩ := l1 L G0 H0 G H σ e _ g hu
  obtain ⟨a, dx, vs, rfl, ha, hr⟩ := hv
  obtain ⟨w, hw, hw2⟩ := hr.get hd
  refine ⟨w, hw2, fun L' G0' H0' H' Q g' q => use L' G0' H0' H' _ g' ?_⟩
  rcases g'.ex.old a _ ha with z | ⟨_, _, z, _⟩
  · exact ⟨a, C, dx, vs, w, rfl, z, c, n, hw, q⟩
  · cases z
end
end DL
/-! DL29: walks in one piece; methods of the text's classes where they stand. -/
namespace DL
open PySem L2 PyProof.Rows
section
variable {X : Cx} {b : Bg} {K : PySem.W.Frag}
structure WalkE (X : Cx) (b : Bg) (tg iter : Expr) (ud : List Sl → D → Prop) (img : Key × D → D) : Prop where
  ex : ∃ t wi J, PI X tg iter wi ∧ WalksBy t wi J ∧ JokW X.K b J img ∧ LV X.K b t ud
def vAt (n : Nat) (ud : List Sl → D → Prop) : List Sl → D → Prop := fun e d => ∃ xs, ud e (.tup xs) ∧ xs[n]? = some d
def vFld (C : Addr) (f : Str) (ud : List Sl → D → Prop) : List Sl → D → Prop := fun e d => ∃ fs, ud e (.obj C fs) ∧ fs.lookup f = some d
theorem pv_atE {a c : Expr} {ud : List Sl → D → Prop} {pos : Pos} (n : Nat) {j : Nat} {p : Pos} (h : PV X b a ud) (hs : PlainIx (.Constant (.int n) j p) := by exact fun _ _ => rfl) : PV X b (.Subscript a (.Constant (.int n) j p) pos) (vAt n ud) := pv_at (c := a) (xs := []) n h hs
theorem pv_fldE {C : Addr} {f : Str} {a : Expr} {ud : List Sl → D → Prop} {pos : Pos} (c : Cls X.K C) (n : NoAttr X.K C f) (h : PV X b a ud) (hb : attributeBase a f X.env (eval a X.env) = eval a X.env := by rfl) : PV X b (.Attribute a f pos) (vFld C f ud) := pv_fld c n h hb
theorem walk_items {a : Expr} {ud : List Sl → D → Prop} {elts : List Expr} {kk : Nat} {tpos apos cpos : Pos} (h : PV X b a ud) (hbase : attributeBase a "items" X.env (eval a X.env) = eval a X.env := by rfl) (hline : (apos.endLine == cpos.line) = true := by rfl) :
    WalkE X b (.Tuple elts kk tpos) (.Call (.Attribute a "items" apos) [] [] cpos) ud (fun kv => .tup [kD kv.1, kv.2]) := by
  obtain ⟨t, p, l⟩ := h
  exact ⟨t, _, Iti, pi_items p hbase hline, fun _ _ _ h => h, jokW_items, l⟩
theorem walk_values {tg a : Expr} {ud : List Sl → D → Prop} {apos cpos : Pos} (h : PV X b a ud) (hbase : attributeBase a "values" X.env (eval a X.env) = eval a X.env := by rfl) (hline : (apos.endLine == cpos.line) = true := by rfl) :
    WalkE X b tg (.Call (.Attribute a "values" apos) [] [] cpos) ud (fun kv => kv.2) := by
  obtain ⟨t, p, l⟩ := h
  exact ⟨t, _, Itd, pi_values p hbase hline, fun _ _ _ h => h, jokW_vals, l⟩
theorem pi_keysE {tg a : Expr} {t : TE} (he : PE X a t) : PI X tg a (iKeysM t) := by
  constructor
  intro pins s σ H R I h
  refine thn (he.run pins s σ H _ I h) ?_
  rintro v s1 ⟨_, H1, I1, rx, p, od, kvs, rfl, hp, q⟩
  cases rx
  obtain ⟨z1, z2, z3, es, ep, ws, z4, z5, _, _⟩ := I1.frzK hp
  refine iter_keys z1 z2 z3 z4 (pi_one (tk := s1.toks) I1 _ (turn_keys _ z4) ⟨_, Heap.get?_push_size _ rfl, rfl, ?_⟩ q)
  rw [z5]
  rfl
theorem walk_keys {tg a : Expr} {ud : List Sl → D → Prop} (h : PV X b a ud) : WalkE X b tg a ud (fun kv => kD kv.1) := by
  obtain ⟨t, p, l⟩ := h
  exact ⟨t, _, Itk, pi_keysE p, fun _ _ _ h => h, jokW_keys, l⟩
theorem d_lcV {elt tg iter : Expr} {ifs : List Expr} {scope : Scope} {own : List (Str × Nat)} {pos : Pos} {img : Key × D → D} {ud : List Sl → D → Prop} {js : List Nat} {ug : DG} {ut : DT} {ue : DE} (hN : X.N.Nodup) (ok : blkC X.N X.env.scope scope own = true) (hj : ∀ j ∈ js, j ∈ own.map (·.2)) (hw : WalkE X b tg iter ud img)
    (hg : Blk X scope fun Y => PDG Y b.q tg js ug) (ht : Blk X scope fun Y => PDTs Y b.q ifs ut) (he : Blk X scope fun Y => PD Y b.q elt ue) (hc : X.calm = true := by rfl) (hs : ∀ x, foldedSetIterable iter X.env x = pure x := by intro _; rfl) :
    PD X b (.ListComp elt [⟨tg, iter, ifs, 0⟩] scope pos) (uLc (uItW ud img) ug ut ue (own.map (·.2))) := by
  obtain ⟨t, wi, J, h1, h2, h3, h4⟩ := hw
  exact d_lcW hN ok hj h1 h2 h3 h4 hg ht he hc hs
theorem d_dcV {kx vx tg iter : Expr} {ifs : List Expr} {scope : Scope} {own : List (Str × Nat)} {pos : Pos} {img : Key × D → D} {ud : List Sl → D → Prop} {js : List Nat} {ug : DG} {ut : DT} {uk ue : DE} (hN : X.N.Nodup) (ok : blkC X.N X.env.scope scope own = true) (hj : ∀ j ∈ js, j ∈ own.map (·.2)) (hw : WalkE X b tg iter ud img)
    (hg : Blk X scope fun Y => PDG Y b.q tg js ug) (ht : Blk X scope fun Y => PDTs Y b.q ifs ut) (hk : Blk X scope fun Y => PD Y b.q kx uk) (he : Blk X scope fun Y => PD Y b.q vx ue) (hc : X.calm = true := by rfl) (hs : ∀ x, foldedSetIterable iter X.env x = pure x := by intro _; rfl) :
    PD X b (.DictComp kx vx [⟨tg, iter, ifs, 0⟩] scope pos) (uDc (uItW ud img) ug ut uk ue (own.map (·.2))) := by
  obtain ⟨t, wi, J, h1, h2, h3, h4⟩ := hw
  exact d_dcW hN ok hj h1 h2 h3 h4 hg ht hk he hc hs
theorem ds_forV {tg iter : Expr} {body : List Stmt} {img : Key × D → D} {ud : List Sl → D → Prop} {js : List Nat} {ug : DG} {ub : DS} {pos : Pos} (hw : WalkE X b tg iter ud img) (hg : PDG X b.q tg js ug) (hb : PDSs X b.q body ub)
    (hp : PassesOwn (model X.prog X.w) X.A X.env X.xe := by exact PassesOwn.never) (hc : X.calm = true := by rfl) (hs : ∀ x, foldedSetIterable iter X.env x = pure x := by intro _; rfl) : PDS X b (.For tg iter body [] pos) (uFor (uItW ud img) ug ub) := by
  obtain ⟨t, wi, J, h1, h2, h3, h4⟩ := hw
  exact ds_forW h1 h2 h3 h4 hg hb hp hc hs
/-! ### dict(pairs), dict(d), least and greatest of two -/
def pairK : D → Option (Key × D)
  | .tup [k, d] => (keyD k).map fun k => (k, d)
  | _ => none
def mergeD (acc : List (Key × D)) : List (Key × D) → List (Key × D)
  | [] => acc
  | (k, d) :: r => mergeD (putD acc k d) r
def fDict (d : D) (P : R → Prop) : Prop := match d with
  | .dk kvs => P (.ow (.dk kvs))
  | .lst xs => ∃ kvs, xs.map pairK = kvs.map some ∧ P (.ow (.dk (mergeD [] kvs)))
  | _ => False
theorem mergeD_K {G : Hp} : ∀ {more : List (Key × D)} {ms : List (Key × V)} {acc : List (Key × D)} {as : List (Key × V)}, RepK K G more ms → RepK K G acc as → RepK K G (mergeD acc more) (mergeK as ms)
  | [], _, _, _, h, ha => by cases h; exact ha
  | (k, d) :: r, _, acc, as, ⟨v, q, h1, h2, h3⟩, ha => by
    subst h1
    show RepK K G (mergeD (putD acc k d) r) (mergeK (putK as k v) q)
    exact mergeD_K h3 (ha.put k h2)
theorem pairs_rep {G H : Hp} (ex : Ex G H) : ∀ {xs : List D} {vs : List V} {kvs : List (Key × D)}, RepL K G xs vs → xs.map pairK = kvs.map some → ∃ (ps : List Addr) (ws : List (Key × V)), vs = ps.map V.ref ∧ Paired (fun p kv => SqT K H p [kV kv.1, kv.2]) ps ws ∧ RepK K G kvs ws
  | [], _, kvs, h, e => by
    cases h
    have : kvs = [] := List.map_eq_nil_iff.mp e.symm
    subst this
    exact ⟨[], [], rfl, .nil, rfl⟩
  | x :: xs, _, kvs, ⟨v, r, h1, h2, h3⟩, e => by
    subst h1
    cases kvs with
    | nil => cases e
    | cons kv kvs =>
      obtain ⟨k, d⟩ := kv
      rw [List.map_cons, List.map_cons] at e
      obtain ⟨e1, e2⟩ := List.cons.inj e
      obtain ⟨ps, ws, q1, q2, q3⟩ := pairs_rep ex h3 e2
      unfold pairK at e1
      split at e1
      · rename_i kd d'
        cases ek : keyD kd with
        | none => rw [ek] at e1; cases e1
        | some k' =>
          rw [ek] at e1
          cases e1
          obtain ⟨a, vs, rfl, ha, w1, r1, rfl, g1, w2, r2, rfl, g2, g3⟩ := h2
          cases g3
          have e3 : w1 = kV k := keyD_top ek (Rep.top ex g1)
          subst e3
          exact ⟨a :: ps, (k, w2) :: ws, by rw [q1]; rfl, .cons (ex_tup ex ha) q2, w2, ws, rfl, g2, q3⟩
      · cases e1
theorem lc_dict : LC K (fun xs H Q => (fun xs H Q => ∃ (a : Addr) (ps : List Addr) (kvs : List (Key × V)), xs = [.ref a] ∧ SqL K H a (ps.map V.ref) ∧ Paired (fun p kv => SqT K H p [kV kv.1, kv.2]) ps kvs ∧ ∀ p, H p = none → Q (.ref p) (upd H p (.dK (mergeK [] kvs)))) xs H Q ∨
    (fun xs H Q => ∃ (a : Addr) (kvs : List (Key × V)), xs = [.ref a] ∧ Rd H a (.dK kvs) ∧ ∀ p, H p = none → Q (.ref p) (upd H p (.dK kvs))) xs H Q) fDict := by
  intro b L G0 H0 G H σ e d x P Q g h hf k
  unfold fDict at hf
  split at hf
  · obtain ⟨a, vs, rfl, ha, hr⟩ := h
    exact .inr ⟨a, vs, rfl, ha, g.newK hr hf k⟩
  · obtain ⟨kvs, e1, p⟩ := hf
    obtain ⟨a, vs, rfl, ha, hr⟩ := h
    obtain ⟨ps, ws, rfl, q2, q3⟩ := pairs_rep g.ex hr e1
    exact .inl ⟨a, ps, ws, rfl, SqL.of ha, q2, g.newK (mergeD_K q3 (show RepK K G [] [] from rfl)) p k⟩
  · exact hf.elim
theorem d_dict1 {a : Expr} {u : DE} {p pos : Pos} (hm : X.mg "dict" = none) (h1 : PD X b a u) (hc : X.calm = true := by rfl) (hg : Gl X "dict" := by rfl) (hs : starEach (a :: []) X.env = (false, eval a X.env) :: starEach [] X.env := by rfl) (hpl : (backTo pos (starEach [] X.env)).any (·.1) = false := by rfl) :
    PD X b (.Call (.Name "dict" p) [a] [] pos) (uB fDict u) := d_t1 (callR_or (call_dictP hc) call_dictD) lc_dict hm (by decide +kernel) h1 hg (hs := hs) (hpl := hpl)
/-- min(a, b), max(a, b) -/
def u2B (f : List D → (R → Prop) → Prop) (ua : DA) : DE := fun e P => ua e fun ds => f ds P
def fMin2 (ds : List D) (P : R → Prop) : Prop := ∃ i j : Int, ds = [.int i, .int j] ∧ P (.sh (.int (if j < i then j else i)))
def fMax2 (ds : List D) (P : R → Prop) : Prop := ∃ i j : Int, ds = [.int i, .int j] ∧ P (.sh (.int (if j > i then j else i)))
theorem d_min2 {a c : Expr} {ua : DA} {p pos : Pos} (hm : X.mg "min" = none) (h : PDA X b [a, c] ua) (hc : X.calm = true := by rfl) (hg : Gl X "min" := by rfl) (hs : starEach [a, c] X.env = (false, eval a X.env) :: starEach [c] X.env := by rfl) (hpl : (backTo pos (starEach [c] X.env)).any (·.1) = false := by rfl) :
    PD X b (.Call (.Name "min" p) [a, c] [] pos) (u2B fMin2 ua) := by
  obtain ⟨t, pa, l⟩ := h
  refine ⟨_, pe_callB (call_min2 hc) hg hm (by decide +kernel) pa (by decide) (by decide) hs hpl, ?_⟩
  intro L G0 H0 G H σ e P Q g hu k
  refine l L G0 H0 G H σ e _ _ g hu fun vs ds G1 H1 s1 hr ⟨i, j, e, p⟩ => ?_
  subst e
  obtain ⟨_, _, rfl, rfl, _, _, rfl, rfl, rfl⟩ := hr
  exact ⟨i, j, rfl, k _ (.sh (.int _)) G1 H1 s1 rfl p⟩
theorem d_max2 {a c : Expr} {ua : DA} {p pos : Pos} (hm : X.mg "max" = none) (h : PDA X b [a, c] ua) (hc : X.calm = true := by rfl) (hg : Gl X "max" := by rfl) (hs : starEach [a, c] X.env = (false, eval a X.env) :: starEach [c] X.env := by rfl) (hpl : (backTo pos (starEach [c] X.env)).any (·.1) = false := by rfl) :
    PD X b (.Call (.Name "max" p) [a, c] [] pos) (u2B fMax2 ua) := by
  obtain ⟨t, pa, l⟩ := h
  refine ⟨_, pe_callB (call_max2 hc) hg hm (by decide +kernel) pa (by decide) (by decide) hs hpl, ?_⟩
  intro L G0 H0 G H σ e P Q g hu k
  refine l L G0 H0 G H σ e _ _ g hu fun vs ds G1 H1 s1 hr ⟨i, j, e, p⟩ => ?_
  subst e
  obtain ⟨_, _, rfl, rfl, _, _, rfl, rfl, rfl⟩ := hr
  exact ⟨i, j, rfl, k _ (.sh (.int _)) G1 H1 s1 rfl p⟩
/-! ### len, list of dicts too -/
theorem cr_lenD : CallR X (.builtin "len") (fun xs H Q => ∃ a kvs, xs = [V.ref a] ∧ Rd H a (.dK kvs) ∧ Q (.int kvs.length) H) := by
  rintro pins s σ H xs us Q I r ⟨a, kvs, rfl, ha, q⟩
  obtain ⟨u, rfl, ru⟩ := vals1 r
  cases ru
  refine L2.d_len I ?_ fun t s' I' => ⟨.int kvs.length, H, I', ⟨t, rfl⟩, q⟩
  first | exact ha | exact .inl ha
def fLenU (d : D) (P : R → Prop) : Prop := match d with
  | .dk kvs => P (.sh (.int kvs.length))
  | d => fLen d P
theorem lc_lenU : LC K (fun xs H Q => ((fun xs H Q => ∃ p ys, xs = [.ref p] ∧ (SqL K H p ys ∨ SqT K H p ys) ∧ Q (.int ys.length) H) xs H Q ∨ (fun xs H Q => ∃ z : Str, xs = [.str z] ∧ z.length ≤ sizeLine ∧ Q (.int z.length) H) xs H Q) ∨ (fun xs H Q => ∃ a kvs, xs = [V.ref a] ∧ Rd H a (.dK kvs) ∧ Q (.int kvs.length) H) xs H Q) fLenU := by
  intro b L G0 H0 G H σ e d x P Q g h hf k
  unfold fLenU at hf
  split at hf
  · obtain ⟨a, vs, rfl, ha, hr⟩ := h
    refine .inr ⟨a, vs, rfl, ha, ?_⟩
    rw [hr.length]
    exact k _ (.sh (.int _)) G H (Stp.refl g.ex) rfl hf
  · exact .inl (lc_len b L G0 H0 G H σ e _ x P Q g h hf k)
theorem d_lenU {a : Expr} {u : DE} {p pos : Pos} (hm : X.mg "len" = none) (h1 : PD X b a u) (hg : Gl X "len" := by rfl) (hs : starEach (a :: []) X.env = (false, eval a X.env) :: starEach [] X.env := by rfl) (hpl : (backTo pos (starEach [] X.env)).any (·.1) = false := by rfl) :
    PD X b (.Call (.Name "len" p) [a] [] pos) (uB fLenU u) := d_b1 (callR_or (callR_or call_len_seq call_len_str) cr_lenD) lc_lenU hm (by decide +kernel) h1 hg (hs := hs) (hpl := hpl)
def fListU (d : D) (P : R → Prop) : Prop := match d with
  | .dk kvs => P (.ow (.lst (kvs.map fun kv => kD kv.1)))
  | d => fList2 d P
theorem keys_rep {G : Hp} {kvs : List (Key × D)} {vs : List (Key × V)} (h : RepK K G kvs vs) : RepL K G (kvs.map fun kv => kD kv.1) (vs.map fun kv => kV kv.1) := by
  induction kvs generalizing vs with
  | nil => cases h; rfl
  | cons p r ih =>
    obtain ⟨k, d⟩ := p
    obtain ⟨v, q, rfl, _, h3⟩ := h
    exact ⟨_, _, rfl, kD_rep k, ih h3⟩
theorem e_lenU1 {kvs : List (Key × D)} {P : R → Prop} : fLenU (.dk kvs) P = P (.sh (.int kvs.length)) := rfl
theorem e_lenU2 {xs : List D} {P : R → Prop} : fLenU (.lst xs) P = P (.sh (.int xs.length)) := rfl
theorem e_lenU3 {xs : List D} {P : R → Prop} : fLenU (.tup xs) P = P (.sh (.int xs.length)) := rfl
theorem e_lenU4 {s : Str} {P : R → Prop} : fLenU (.str s) P = (s.length ≤ 1000000 ∧ P (.sh (.int s.length))) := rfl
theorem e_listU1 {kvs : List (Key × D)} {P : R → Prop} : fListU (.dk kvs) P = P (.ow (.lst (kvs.map fun kv => kD kv.1))) := rfl
theorem e_listU2 {xs : List D} {P : R → Prop} : fListU (.lst xs) P = P (.ow (.lst xs)) := rfl
theorem e_listU3 {xs : List D} {P : R → Prop} : fListU (.tup xs) P = P (.ow (.lst xs)) := rfl
theorem e_listU4 {s : Str} {P : R → Prop} : fListU (.str s) P = (s.length ≤ 1000000 ∧ P (.ow (.lst (signs s)))) := rfl
theorem lc_listU : LC K (fun xs H Q => ((fun xs H Q => ∃ p ys, xs = [.ref p] ∧ (SqL K H p ys ∨ SqT K H p ys) ∧ ∀ l, H l = none → Q (.ref l) (upd H l (.lst ys))) xs H Q ∨
    (fun xs H Q => ∃ z : Str, xs = [.str z] ∧ z.length ≤ sizeLine ∧ ∀ p, H p = none → Q (.ref p) (upd H p (.lst (z.cps.toList.map fun c => V.str (sign c))))) xs H Q) ∨
    (fun xs H Q => ∃ (a : Addr) (kvs : List (Key × V)), xs = [.ref a] ∧ Rd H a (.dK kvs) ∧ ∀ p, H p = none → Q (.ref p) (upd H p (.lst (kvs.map fun kv => kV kv.1)))) xs H Q) fListU := by
  intro b L G0 H0 G H σ e d x P Q g h hf k
  unfold fListU at hf
  split at hf
  · obtain ⟨a, vs, rfl, ha, hr⟩ := h
    exact .inr ⟨a, vs, rfl, ha, g.newL (keys_rep hr) hf k⟩
  · exact .inl (lc_list2 b L G0 H0 G H σ e _ x P Q g h hf k)
theorem d_listU {a : Expr} {u : DE} {p pos : Pos} (hm : X.mg "list" = none) (h1 : PD X b a u) (hc : X.calm = true := by rfl) (hg : Gl X "list" := by rfl) (hs : starEach (a :: []) X.env = (false, eval a X.env) :: starEach [] X.env := by rfl) (hpl : (backTo pos (starEach [] X.env)).any (·.1) = false := by rfl) :
    PD X b (.Call (.Name "list" p) [a] [] pos) (uB fListU u) := d_t1 (callR_or (callR_or call_list_of (cr_listStr hc)) (call_listD hc)) lc_listU hm (by decide +kernel) h1 hg (hs := hs) (hpl := hpl)
/-! ### a < b < c -/
def uChn (f f' : D → D → (R → Prop) → Prop) (ua ub uc : DE) : DE := fun e P => ua e fun r1 => ub e fun r2 => f r1.look r2.look (asB fun c => if c = true then uc e fun r3 => f' r2.look r3.look P else P (.sh (.bl false)))
theorem le_chain {r r' : R2} {f f' : D → D → (R → Prop) → Prop} {t1 t2 t3 : TE} {u1 u2 u3 : DE} (h : LO K r f) (h' : LO K r' f') (l1 : LE K b t1 u1) (l2 : LE K b t2 u2) (l3 : LE K b t3 u3) : LE K b (tChain r r' t1 t2 t3) (uChn f f' u1 u2 u3) := by
  intro L G0 H0 G H σ e P Q g hu k
  refine l1 L G0 H0 G H σ e _ _ g hu fun v1 r1 G1 H1 s1 hr1 q1 => ?_
  have g1 := g.step s1
  refine l2 L G0 H0 G1 H1 σ e _ _ g1 q1 fun v2 r2 G2 H2 s2 hr2 q2 => ?_
  have g2 := g1.step s2
  refine h b L G0 H0 G2 H2 σ e _ _ v1 v2 _ _ g2 ((hr1.step s2).top g2) (hr2.top g2) q2 fun v r G3 H3 s3 hr hp => ?_
  obtain ⟨c, rfl, hc⟩ := asB_of hr hp
  have g3 := g2.step s3
  refine ⟨c, rfl, ?_⟩
  have s123 := (s1.trans s2).trans s3
  cases c with
  | false =>
    rw [if_neg (by simp)] at hc ⊢
    exact k _ (.sh (.bl false)) G3 H3 s123 rfl hc
  | true =>
    rw [if_pos rfl] at hc ⊢
    refine l3 L G0 H0 G3 H3 σ e _ _ g3 hc fun v3 r3 G4 H4 s4 hr3 q4 => ?_
    have g4 := g3.step s4
    refine h' b L G0 H0 G4 H4 σ e _ _ v2 v3 P Q g4 (((hr2.step s3).step s4).top g4) (hr3.top g4) q4 fun v r G' H' s hr hp => ?_
    exact k v r G' H' ((s123.trans s4).trans s) (hr.back fun a hb z => s1.back a hb (s2.back a hb (s3.back a hb (s4.back a hb z)))) hp
theorem d_chain {op op' : CmpOp} {r r' : R2} {f f' : D → D → (R → Prop) → Prop} {a c d : Expr} {u1 u2 u3 : DE} {pos : Pos} (ho : OpR X (compareOp op) r) (ho' : OpR X (compareOp op') r') (h : LO X.K r f) (h' : LO X.K r' f') (h1 : PD X b a u1) (h2 : PD X b c u2) (h3 : PD X b d u3)
    (hm : lastMarks [op, op'] [c, d] = false := by with_unfolding_all rfl) : PD X b (.Compare a [op, op'] [c, d] pos) (uChn f f' u1 u2 u3) := by
  obtain ⟨t1, p1, l1⟩ := h1
  obtain ⟨t2, p2, l2⟩ := h2
  obtain ⟨t3, p3, l3⟩ := h3
  exact ⟨_, pe_chain ho ho' p1 p2 p3 hm, le_chain h h' l1 l2 l3⟩
theorem dt_chain {op op' : CmpOp} {r r' : R2} {f f' : D → D → (R → Prop) → Prop} {a c d : Expr} {u1 u2 u3 : DE} {pos : Pos} (ho : OpR X (compareOp op) r) (ho' : OpR X (compareOp op') r') (h : LO X.K r f) (h' : LO X.K r' f') (h1 : PD X b a u1) (h2 : PD X b c u2) (h3 : PD X b d u3)
    (hm : lastMarks [op, op'] [c, d] = false := by with_unfolding_all rfl) : PDT X b (.Compare a [op, op'] [c, d] pos) (uTest (uChn f f' u1 u2 u3)) := by
  obtain ⟨t1, p1, l1⟩ := h1
  obtain ⟨t2, p2, l2⟩ := h2
  obtain ⟨t3, p3, l3⟩ := h3
  exact ⟨_, pt_chain ho ho' p1 p2 p3 hm, lt_test (le_chain h h' l1 l2 l3)⟩
/-- ints: 0 <= x < n -/
theorem d_leLt {a c d : Expr} {u1 u2 u3 : DE} {pos : Pos} (h1 : PD X b a u1) (h2 : PD X b c u2) (h3 : PD X b d u3) (hm : lastMarks [.LtE, .Lt] [c, d] = false := by with_unfolding_all rfl) : PD X b (.Compare a [.LtE, .Lt] [c, d] pos) (uChn fLeI fLt u1 u2 u3) := d_chain op_le (opR_or op_lt op_lt_str) (lo_I0 fun _ _ _ => rfl) lo_ord h1 h2 h3 hm
theorem dt_leLt {a c d : Expr} {u1 u2 u3 : DE} {pos : Pos} (h1 : PD X b a u1) (h2 : PD X b c u2) (h3 : PD X b d u3) (hm : lastMarks [.LtE, .Lt] [c, d] = false := by with_unfolding_all rfl) : PDT X b (.Compare a [.LtE, .Lt] [c, d] pos) (uTest (uChn fLeI fLt u1 u2 u3)) := dt_chain op_le (opR_or op_lt op_lt_str) (lo_I0 fun _ _ _ => rfl) lo_ord h1 h2 h3 hm
theorem d_leLe {a c d : Expr} {u1 u2 u3 : DE} {pos : Pos} (h1 : PD X b a u1) (h2 : PD X b c u2) (h3 : PD X b d u3) (hm : lastMarks [.LtE, .LtE] [c, d] = false := by with_unfolding_all rfl) : PD X b (.Compare a [.LtE, .LtE] [c, d] pos) (uChn fLeI fLeI u1 u2 u3) := d_chain op_le op_le (lo_I0 fun _ _ _ => rfl) (lo_I0 fun _ _ _ => rfl) h1 h2 h3 hm
theorem dt_leLe {a c d : Expr} {u1 u2 u3 : DE} {pos : Pos} (h1 : PD X b a u1) (h2 : PD X b c u2) (h3 : PD X b d u3) (hm : lastMarks [.LtE, .LtE] [c, d] = false := by with_unfolding_all rfl) : PDT X b (.Compare a [.LtE, .LtE] [c, d] pos) (uTest (uChn fLeI fLeI u1 u2 u3)) := dt_chain op_le op_le (lo_I0 fun _ _ _ => rfl) (lo_I0 fun _ _ _ => rfl) h1 h2 h3 hm
/-- a constant of the module -/
theorem d_globE {x : Str} {v : V} {d : D} {pos : Pos} (hm : ∃ u, X.mg x = some u ∧ RelV v u) (hr : ∀ G, Rep X.K G d v) (hg : Gl X x := by rfl) (hd : (x == ("__debug__" : Str)) = false := by decide) : PD X b (.Name x pos) (uC d) := by
  obtain ⟨u, h1, h2⟩ := hm
  exact d_glob h1 h2 hr hg hd
/-- C.f, a constant of a class -/
theorem d_cval {C : Addr} {mc : Value} {f x : Str} {v : V} {d : D} {p pos : Pos} (hm : X.mg x = some (.ref C)) (r : ClX.CRead X.K C mc) (c : ∃ w, ClX.CVal X.K C mc f v w) (hr : ∀ G, Rep X.K G d v) (hg : Gl X x := by rfl) (hd : (x == ("__debug__" : Str)) = false := by decide)
    (hb : attributeBase (.Name x p) f X.env (eval (.Name x p) X.env) = eval (.Name x p) X.env := by rfl) : PD X b (.Attribute (.Name x p) f pos) (uC d) := by
  obtain ⟨w, c⟩ := c
  refine ⟨_, ClX.pe_cval (pe_glob (v := .ref C) hg hm rfl hd) hb, ?_⟩
  intro L G0 H0 G H σ e P Q g hu k
  exact ⟨C, mc, v, w, rfl, r, c, k v (.sh d) G H (Stp.refl g.ex) (hr G) hu⟩
end
/-! ### methods where they stand -/
section
variable {P : Program} {w : World} {K : PySem.W.Frag} {mg : Str → Option Value} {base : Heap}
structure HereM (K : PySem.W.Frag) (C : Addr) (m qual : Str) (st : Stmt) (ps : List Str) : Prop where
  ex : ∃ f fd, Fun K m qual st f fd ∧ Meth K C m f ∧ Binds K fd ps []
structure HereI (K : PySem.W.Frag) (mg : Str → Option Value) (x : Str) (C : Addr) (st : Stmt) (ps : List Str) : Prop where
  ex : ∃ f fd, Fun K "__init__" (x ++ ".__init__") st f fd ∧ Mk K C f ∧ Binds K fd ps []
theorem hereM_mk {C : Addr} {m qual : Str} {st : Stmt} {ps : List Str} {f : Addr} {oc : Value} {od an : Option Addr} {osl : Array (Option Value)} {kV doc pm cdv ct : Value} (a : PySem.W.findIn K (.ref C) m = some (some (.ref f))) (i : PySem.W.isFn K (.ref f) = true)
    (l : K.lookup f = some ⟨oc, od, .func (PySem.W.fnOf m qual (defArgs st) (defBody st) (defScope st) .none kV doc pm an cdv ct), osl⟩) (c : PySem.W.codeIn K cdv qual = true) (k : PySem.W.keepIn K (.ref f) = true)
    (hb : ∀ (kV doc pm : Value) (an : Option Addr) (cdv ct : Value) (us : List Value), us.length = ps.length → bindArgs (PySem.W.fnOf m qual (defArgs st) (defBody st) (defScope st) .none kV doc pm an cdv ct) ⟨us, []⟩ = pure (ps.zip us)) : HereM K C m qual st ps :=
  ⟨f, _, fun_mk l c k, ⟨a, i, k⟩, (fun_mk (st := st) l c k).binds hb⟩
theorem hereI_mk {C : Addr} {x : Str} {st : Stmt} {ps : List Str} {f : Addr} {oc : Value} {od an : Option Addr} {osl : Array (Option Value)} {kV doc pm cdv ct : Value} (mk : PySem.W.makesIn K C = true) (a : PySem.W.findIn K (.ref C) "__init__" = some (some (.ref f))) (i : PySem.W.isFn K (.ref f) = true) (kc : PySem.W.keepIn K (.ref C) = true)
    (l : K.lookup f = some ⟨oc, od, .func (PySem.W.fnOf "__init__" (x ++ ".__init__") (defArgs st) (defBody st) (defScope st) .none kV doc pm an cdv ct), osl⟩) (c : PySem.W.codeIn K cdv (x ++ ".__init__") = true) (k : PySem.W.keepIn K (.ref f) = true)
    (hb : ∀ (kV doc pm : Value) (an : Option Addr) (cdv ct : Value) (us : List Value), us.length = ps.length → bindArgs (PySem.W.fnOf "__init__" (x ++ ".__init__") (defArgs st) (defBody st) (defScope st) .none kV doc pm an cdv ct) ⟨us, []⟩ = pure (ps.zip us)) : HereI K mg x C st ps :=
  ⟨f, _, fun_mk l c k, ⟨mk, a, i, kc⟩, (fun_mk (st := st) l c k).binds hb⟩
theorem fn_dataM {x qual : Str} {st : Stmt} {f : Addr} {fd : FuncData} {N ps : List Str} {k : Nat} {fs : FS} {u : DS} (F : Fun K x qual st f fd) (hbi : Binds K fd ps []) (S : FnScope N ps (defScope st)) (len : ∀ ds P, fs ds P → ds.length = ps.length)
    (hb : ∀ (cdv : Value) (A : Around) (outer : List Env) (s : Shared) (H : Hp) (E : XK), Room k (A.deeper (envOfC qual (defScope st) s.heap.objs.size f cdv)) → PDSs (cxOf CX0 P w K mg base N qual (defScope st) f cdv A outer s H E).nox (bN none) (defBody st) u)
    (hu : ∀ ds P, fs ds P → u ⟨fun _ => P (.sh .non), fun r _ => P r, fun _ => False, fun _ => False⟩ (env0 N ds)) : FnOk P w K mg base CX0 (k + 1) f fd ps (spN K fs) := by
  refine F.ok S (fun vs H Q E h => ?_) (fun cdv A outer s H vs Q E hr h => ?_)
  · obtain ⟨G, ds, P, _, hr, hf, _⟩ := h
    rw [hr.length]; exact len ds P hf
  · obtain ⟨G, ds, P', ex, hds, hf, kk⟩ := h
    obtain ⟨t, p, l⟩ := hb cdv A outer s H E hr
    refine ⟨t, p, l [] G H G H _ _ ⟨fun _ => P' (.sh .non), fun r _ => P' r, fun _ => False, fun _ => False⟩ _ (good0 ex hds) ⟨fun G' H' σ e g h => ?_, fun G' H' σ e v r g hr h => ?_, fun G' H' σ e g h => h.elim, fun G' H' σ e g h => h.elim⟩ (hu ds P' hf)⟩
    · exact kk .non (.sh .non) G' H' g.stp rfl h
    · exact kk v r G' H' g.stp hr h
end
end DL
/-! DL30: plain mathematics of linear equations modulo 2 over bit rows. -/
namespace Tm
open PySem L2 DL PyProof.Rows
theorem two_bit (n k : Nat) (h : n.testBit k = false) : n + 2 ^ k = n ^^^ 2 ^ k := by
  have h0 : n / 2 ^ k % 2 = 0 := by
    rw [Nat.testBit_eq_decide_div_mod_eq] at h
    have := of_decide_eq_false h
    omega
  have hp : 0 < 2 ^ k := Nat.two_pow_pos k
  apply Nat.eq_of_testBit_eq
  intro j
  rw [Nat.testBit_xor, Nat.testBit_two_pow]
  by_cases hj : j < k
  · have e : (n + 2 ^ k).testBit j = n.testBit j := by
      rw [Nat.add_comm, Nat.testBit_two_pow_add_gt hj]
    have q : ¬ k = j := by omega
    rw [e, decide_eq_false q]; simp
  · have hd : (n + 2 ^ k) / 2 ^ k = n / 2 ^ k + 1 := by rw [Nat.add_div_right _ hp]
    have e1 : ∀ m : Nat, m.testBit j = (m / 2 ^ k).testBit (j - k) := fun m => by
      rw [Nat.testBit_div_two_pow]; congr 1; omega
    rw [e1, e1 n, hd]
    by_cases hk : k = j
    · subst hk
      rw [Nat.sub_self, decide_eq_true rfl, Nat.testBit_zero, Nat.testBit_zero]
      have : (n / 2 ^ k + 1) % 2 = 1 := by omega
      rw [h0, this]; rfl
    · rw [decide_eq_false hk]
      have hjk : j - k = (j - k - 1) + 1 := by omega
      rw [hjk, Nat.testBit_succ, Nat.testBit_succ]
      have : (n / 2 ^ k + 1) / 2 = n / 2 ^ k / 2 := by omega
      rw [this]; simp
/-- an equation's row -/
def rowN (us : List Nat) (v : Nat) : Nat := v + (us.map fun u => 2 ^ (u + 1)).sum
theorem rowN_bit (v : Nat) (hv : v ≤ 1) : ∀ us : List Nat, us.Nodup → (rowN us v).testBit 0 = decide (v = 1) ∧ ∀ k, (rowN us v).testBit (k + 1) = decide (k ∈ us)
  | [], _ => by
    refine ⟨?_, fun k => ?_⟩
    · show (v + 0).testBit 0 = _
      rw [Nat.testBit_zero]
      have : v = 0 ∨ v = 1 := by omega
      rcases this with rfl | rfl <;> rfl
    · show (v + 0).testBit (k + 1) = _
      rw [Nat.testBit_succ]
      have : (v + 0) / 2 = 0 := by omega
      rw [this]; simp
  | u :: us, h => by
    rw [List.nodup_cons] at h
    obtain ⟨h1, h2⟩ := rowN_bit v hv us h.2
    have e : rowN (u :: us) v = rowN us v ^^^ 2 ^ (u + 1) := by
      rw [← two_bit _ _ (by rw [h2]; exact decide_eq_false h.1)]
      unfold rowN
      rw [List.map_cons, List.sum_cons]
      omega
    refine ⟨?_, fun k => ?_⟩
    · have q : ¬ u + 1 = 0 := by omega
      rw [e, Nat.testBit_xor, h1, Nat.testBit_two_pow, decide_eq_false q]; simp
    · rw [e, Nat.testBit_xor, h2, Nat.testBit_two_pow]
      by_cases hk : k = u
      · subst hk; rw [decide_eq_false h.1]; simp
      · have : ¬ u + 1 = k + 1 := by omega
        rw [decide_eq_false this]; simp [hk]
/-- the value of a row at an assignment -/
def fR (x : List Nat) (r : Nat) : Bool := x.foldl (fun c u => c ^^ r.testBit (u + 1)) (r.testBit 0)
theorem fold_xor (g h : Nat → Bool) : ∀ (x : List Nat) (a b : Bool), x.foldl (fun c u => c ^^ (g u ^^ h u)) (a ^^ b) = (x.foldl (fun c u => c ^^ g u) a ^^ x.foldl (fun c u => c ^^ h u) b)
  | [], a, b => rfl
  | u :: x, a, b => by
    rw [List.foldl_cons, List.foldl_cons, List.foldl_cons, ← fold_xor g h x]
    congr 1
    cases a <;> cases b <;> cases g u <;> cases h u <;> rfl
theorem fR_xor (x : List Nat) (r s : Nat) : fR x (r ^^^ s) = (fR x r ^^ fR x s) := by
  unfold fR
  rw [← fold_xor, Nat.testBit_xor]
  congr 1
  funext c u
  rw [Nat.testBit_xor]
theorem fR_zero (x : List Nat) : fR x 0 = false := by
  have := fR_xor x 0 0
  rw [Nat.xor_self] at this
  rw [this]; cases fR x 0 <;> rfl
theorem fold_count (g : Nat → Bool) : ∀ (x : List Nat) (a : Bool), x.foldl (fun c u => c ^^ g u) a = (a ^^ decide ((x.filter g).length % 2 = 1))
  | [], a => by simp
  | u :: x, a => by
    rw [List.foldl_cons, fold_count g x, List.filter_cons]
    cases g u
    · simp
    · simp only [if_pos, List.length_cons]
      have : decide (((x.filter g).length + 1) % 2 = 1) = !decide ((x.filter g).length % 2 = 1) := by
        rw [Bool.eq_iff_iff]; simp; omega
      rw [this]
      cases a <;> cases decide ((x.filter g).length % 2 = 1) <;> rfl
theorem fR_eqn {us x : List Nat} {v : Nat} (hv : v ≤ 1) (hu : us.Nodup) (hx : x.Nodup) : fR x (rowN us v) = !decide ((us.filter fun u => decide (u ∈ x)).length % 2 = v) := by
  obtain ⟨h1, h2⟩ := rowN_bit v hv us hu
  unfold fR
  have e : (fun c u => c ^^ (rowN us v).testBit (u + 1)) = fun c u => c ^^ (fun u => decide (u ∈ us)) u := by funext c u; rw [h2]
  rw [e, fold_count, h1]
  have el : (x.filter fun u => decide (u ∈ us)).length = (us.filter fun u => decide (u ∈ x)).length := by
    refine (perm_mem (hx.filter _) (hu.filter _) fun y => ?_).length_eq
    rw [List.mem_filter, List.mem_filter, decide_eq_true_eq, decide_eq_true_eq]
    exact And.comm
  rw [el]
  generalize (us.filter fun u => decide (u ∈ x)).length = n
  have : v = 0 ∨ v = 1 := by omega
  rcases this with rfl | rfl
  · rw [Bool.eq_iff_iff]; first | (simp; done) | (simp; omega)
  · rw [Bool.eq_iff_iff]; first | (simp; done) | (simp; omega)
theorem fR_snoc (x : List Nat) (u r : Nat) : fR (x ++ [u]) r = (fR x r ^^ r.testBit (u + 1)) := by unfold fR; rw [List.foldl_append]; rfl
/-- the number of bits -/
def bl (n : Nat) : Nat := if n = 0 then 0 else n.log2 + 1
theorem bl_lt {n k : Nat} : bl n ≤ k ↔ n < 2 ^ k := by
  unfold bl
  split
  · rename_i h; subst h; exact ⟨fun _ => Nat.two_pow_pos k, fun _ => Nat.zero_le _⟩
  · rename_i h
    rw [Nat.succ_le_iff, Nat.log2_lt h]
theorem bl_top {n k : Nat} (h : bl n = k + 1) : n.testBit k = true := by
  unfold bl at h
  split at h
  · cases h
  · rename_i h0
    have : n.log2 = k := by omega
    rw [← this]
    exact Nat.testBit_log2 h0
theorem bl_above {n k : Nat} (h : bl n ≤ k) : n.testBit k = false := Nat.testBit_lt_two_pow (bl_lt.mp h)
theorem bl_xor {m n k : Nat} (hm : bl m = k + 1) (hn : bl n = k + 1) : bl (m ^^^ n) ≤ k := by
  rw [bl_lt]
  refine Nat.lt_pow_two_of_testBit _ fun j hj => ?_
  rw [Nat.testBit_xor]
  by_cases h : j = k
  · subst h; rw [bl_top hm, bl_top hn]; rfl
  · rw [bl_above (show bl m ≤ j by omega), bl_above (show bl n ≤ j by omega)]; rfl
/-- the rows that a mark names -/
def comb (e : Nat → Nat) (N m : Nat) : Nat := (List.range N).foldl (fun a j => if m.testBit j then a ^^^ e j else a) 0
theorem comb_succ (e : Nat → Nat) (N m : Nat) : comb e (N + 1) m = if m.testBit N then comb e N m ^^^ e N else comb e N m := by
  unfold comb
  rw [List.range_succ, List.foldl_append]; rfl
theorem comb_xor (e : Nat → Nat) : ∀ (N m n : Nat), comb e N (m ^^^ n) = comb e N m ^^^ comb e N n
  | 0, m, n => by simp [comb]
  | N + 1, m, n => by
    rw [comb_succ, comb_succ, comb_succ, comb_xor e N, Nat.testBit_xor]
    apply Nat.eq_of_testBit_eq
    intro j
    cases m.testBit N <;> cases n.testBit N <;> simp [Nat.testBit_xor]
    · cases (comb e N m).testBit j <;> cases (comb e N n).testBit j <;> cases (e N).testBit j <;> rfl
    · cases (comb e N m).testBit j <;> cases (comb e N n).testBit j <;> cases (e N).testBit j <;> rfl
theorem comb_two (e : Nat → Nat) (i : Nat) : ∀ N, comb e N (2 ^ i) = if i < N then e i else 0
  | 0 => by simp [comb]
  | N + 1 => by
    rw [comb_succ, comb_two e i N, Nat.testBit_two_pow]
    by_cases h : i = N
    · subst h
      have q : ¬ i < i := Nat.lt_irrefl i
      rw [if_neg q, decide_eq_true rfl, if_pos rfl, if_pos (Nat.lt_succ_self i), Nat.zero_xor]
    · rw [decide_eq_false h]
      by_cases h2 : i < N
      · rw [if_pos h2, if_pos (Nat.lt_succ_of_lt h2)]; rfl
      · have q : ¬ i < N + 1 := by omega
        rw [if_neg h2, if_neg q]; rfl
theorem comb_bit (e : Nat → Nat) (k : Nat) : ∀ (N m : Nat), (comb e N m).testBit k = decide ((((List.range N).filter fun j => m.testBit j).filter fun j => (e j).testBit k).length % 2 = 1)
  | 0, m => by simp [comb]
  | N + 1, m => by
    rw [comb_succ, List.range_succ, List.filter_append, List.filter_append, List.length_append]
    have ih := comb_bit e k N m
    cases hm : m.testBit N
    · simp [hm, ih]
    · rw [if_pos rfl, Nat.testBit_xor, ih]
      cases he : (e N).testBit k
      · simp [hm, he]
      · simp [hm, he]
        rw [Bool.eq_iff_iff]; simp; omega
end Tm
namespace DL
open PySem L2 PyProof.Rows
/-! ### a call that is handed an owned thing: the answer holds no part of it -/
mutual
def lowD : D → Bool
  | .non | .bl _ | .int _ | .str _ => true
  | .lst xs => xs.all fun d => match d with | .int _ => true | _ => false
  | .tup xs => lowL xs
  | _ => false
def lowL : List D → Bool
  | [] => true
  | x :: xs => lowD x && lowL xs
end
def hiO : OD → Bool
  | .lst (.str _ :: _) | .lst (.lst _ :: _) | .lst (.tup _ :: _) | .lst (.dk _ :: _) | .lst (.obj _ _ :: _) => true
  | .lst _ => false
  | _ => true
section
variable {X : Cx} {b : Bg} {K : PySem.W.Frag}
def del (G : Hp) (a : Addr) : Hp := fun c => if c = a then none else G c
theorem del_ne {G : Hp} {a c : Addr} (h : c ≠ a) : del G a c = G c := if_neg h
theorem del_same {G : Hp} {a : Addr} : del G a a = none := if_pos rfl
theorem hi_int {G : Hp} {o : OD} {xs : List D} {vs : List V} (hh : hiO o = true) (hr : RepO K G o (.lst vs)) (h : (xs.all fun d => match d with | .int _ => true | _ => false) = true) (hx : RepL K G xs vs) : False := by
  cases o with
  | lst ys =>
    obtain ⟨ws, e, hy⟩ := hr
    cases e
    cases ys with
    | nil => cases hh
    | cons y ys =>
      obtain ⟨v, r, rfl, hv, _⟩ := hy
      cases xs with
      | nil => cases hx
      | cons x xs =>
        obtain ⟨v', r', e, hv', _⟩ := hx
        cases e
        cases x with
        | int i =>
          cases hv'
          cases y with
          | str s => cases hv
          | lst q => obtain ⟨a, _, e, _⟩ := hv; cases e
          | tup q => obtain ⟨a, _, e, _⟩ := hv; cases e
          | dk q => obtain ⟨a, _, e, _⟩ := hv; cases e
          | obj C q => obtain ⟨a, _, _, e, _⟩ := hv; cases e
          | _ => cases hh
        | _ => cases h
  | dk kvs => obtain ⟨vs, e, _⟩ := hr; cases e
  | obj C fs => obtain ⟨dx, vs, e, _⟩ := hr; cases e
theorem not_tup {G : Hp} {o : OD} {vs : List V} (hr : RepO K G o (.tup vs)) : False := by
  cases o with
  | lst ys => obtain ⟨_, e, _⟩ := hr; cases e
  | dk kvs => obtain ⟨vs, e, _⟩ := hr; cases e
  | obj C fs => obtain ⟨dx, vs, e, _⟩ := hr; cases e
mutual
theorem rep_del {G : Hp} {a : Addr} {ho : HO} {o : OD} (ha : G a = some ho) (hh : hiO o = true) (hr : RepO K G o ho) : ∀ {d : D} {v : V}, lowD d = true → Rep K G d v → Rep K (del G a) d v
  | .non, _, _, h => h
  | .bl _, _, _, h => h
  | .int _, _, _, h => h
  | .str _, _, _, h => h
  | .lst xs, _, l, ⟨c, vs, h1, h2, h3⟩ => by
    have hc : c ≠ a := fun z => by
      subst z
      rw [ha] at h2
      cases h2
      exact hi_int hh hr l h3
    refine ⟨c, vs, h1, by rw [del_ne hc]; exact h2, ?_⟩
    exact repL_ints_del l h3
  | .tup xs, _, l, ⟨c, vs, h1, h2, h3⟩ => by
    refine ⟨c, vs, h1, ?_, repL_del ha hh hr l h3⟩
    rcases h2 with h2 | h2
    · have hc : c ≠ a := fun z => by
        subst z
        rw [ha] at h2
        cases h2
        exact not_tup hr
      exact .inl (by rw [del_ne hc]; exact h2)
    · exact .inr h2
  | .dk _, _, l, _ => by cases l
  | .obj _ _, _, l, _ => by cases l
  | .fn _, _, l, _ => by cases l
  | .exc _ _, _, l, _ => by cases l
  | .tabl _ _, _, l, _ => by cases l
theorem repL_del {G : Hp} {a : Addr} {ho : HO} {o : OD} (ha : G a = some ho) (hh : hiO o = true) (hr : RepO K G o ho) : ∀ {xs : List D} {vs : List V}, lowL xs = true → RepL K G xs vs → RepL K (del G a) xs vs
  | [], _, _, h => h
  | x :: xs, _, l, ⟨v, r, h1, h2, h3⟩ => by
    have l' : lowD x = true ∧ lowL xs = true := by simpa [lowL] using l
    exact ⟨v, r, h1, rep_del ha hh hr l'.1 h2, repL_del ha hh hr l'.2 h3⟩
theorem repL_ints_del {G G' : Hp} : ∀ {xs : List D} {vs : List V}, (xs.all fun d => match d with | .int _ => true | _ => false) = true → RepL K G xs vs → RepL K G' xs vs
  | [], _, _, h => h
  | x :: xs, _, l, ⟨v, r, h1, h2, h3⟩ => by
    rw [List.all_cons, Bool.and_eq_true] at l
    refine ⟨v, r, h1, ?_, repL_ints_del l.2 h3⟩
    cases x with
    | int i => exact h2
    | _ => cases l.1
end
def uCallP (f : FS) (i : Nat) (ua : DA) : DE := fun e P => ∃ q o, nth e i = .own q o ∧ ua e fun ds => hiO o = true ∧ f (o.d :: ds) fun r => ∃ d, r = .sh d ∧ lowD d = true ∧ P (.sh d)
theorem Ex1.del {K : PySem.W.Frag} {G G' : Hp} {o : OD} {hO : HO} {a : Addr} {x : Option HO} {u : HO} (hr : RepO K G o hO) (ga : G' a = some hO) (h : Ex1 G' x u) : Ex1 (del G' a) x u := h.imp id fun h => h.imp id fun ⟨q, ps, h1, h2, h3⟩ => ⟨q, ps, h1, h2, h3.1, fun pos cv hc => by
  obtain ⟨c', e1, e2⟩ := h3.2 pos cv hc
  exact ⟨c', e1, by rw [del_ne (fun z => by rw [z, ga] at e2; exact repO_code hr _ _ (Option.some.inj e2))]; exact e2⟩⟩
theorem after_del {G1 H1 G' H' : Hp} {a : Addr} {hO : HO} {o : OD} (hh : hiO o = true) (hr : RepO K G1 o hO) (ga : G1 a = none) (hb : b.a ≠ some a) (hH : H1 a = some hO) (s : Stp b [] (L2.upd G1 a hO) H1 G' H') : Stp b [] G1 H1 (del G' a) H' := by
  have ga' : G' a = some hO := s.g a hO upd_same
  have hr' : RepO K G' o hO := (hr.mono (sub_upd ga)).mono s.g
  refine ⟨fun c u h => ?_, fun c u hc nm h => .inl (s.fr0 hc h (nm_updO hr nm)), fun c hc h hg => ?_, fun c u h => ?_, fun c hc h => ?_⟩
  · have hc : c ≠ a := fun z => by rw [z, ga] at h; cases h
    rw [del_ne hc]
    exact s.g c u (by rw [upd_ne hc]; exact h)
  · by_cases z : c = a
    · subst z; exact del_same
    · rw [del_ne z]
      exact s.new c hc h (by rw [upd_ne z]; exact hg)
  · have z : c ≠ a := fun z => by rw [z, del_same] at h; cases h
    rw [del_ne z] at h
    exact Ex1.del hr ga' (s.ex c u h)
  · have z : c ≠ a := fun z => hb (by rw [hc, z])
    obtain ⟨b1, q, ns, i, n, w, b2, b3, b4⟩ := h
    have hq : q ≠ a := fun z => by rw [z, ga] at b3; cases b3
    have := s.bag c hc ⟨by rw [upd_ne z]; exact b1, q, ns, i, n, w, b2, by rw [upd_ne hq]; exact b3, b4⟩
    obtain ⟨b1, q, ns, i, n, w, b2, b3, b4⟩ := this
    have hq : q ≠ a := fun z => by
      rw [z, ga'] at b3
      cases b3
      exact hi_int hh hr' (by rw [List.all_map]; exact List.all_eq_true.mpr fun _ _ => rfl) (repL_ints' ns)
    exact ⟨by rw [del_ne z]; exact b1, q, ns, i, n, w, b2, by rw [del_ne hq]; exact b3, b4⟩
theorem d_callP {x y : Str} {i k : Nat} {ps : List Str} {f : FS} {es : List Expr} {ua : DA} {p px pos : Pos} (F : Known X.prog X.w X.K X.mg X.base x k ps (spN X.K f)) (hr : Room k X.A) (ha : PDA X b es ua) (hg : Gl X x := by rfl)
    (hdb : (x == ("__debug__" : Str)) = false := by decide) (hN : X.N[i]? = some y := by rfl) (hv : Vis X.env.scope y := by first | exact Or.inl rfl | exact Or.inr (Or.inl rfl) | exact Or.inr (Or.inr rfl)) (hd : (y == ("__debug__" : Str)) = false := by decide) (hcd : (y == ("__classdict__" : Str)) = false := by decide)
    (he : starEach (.Name y px :: es) X.env = (false, eval (.Name y px) X.env) :: starEach es X.env := by rfl) (hpl : (backTo pos (starEach es X.env)).any (·.1) = false := by rfl) : PD X b (.Call (.Name x p) (.Name y px :: es) [] pos) (uCallP f i ua) := by
  obtain ⟨fa, fd, F, hm, hk, hb⟩ := F
  obtain ⟨t, pa, l⟩ := ha
  refine ⟨_, pe_call F hr hg hm hk hb .nil pass0 (pa_cons (pe_var hN hv hd hcd) pa he) hdb he hpl, ?_⟩
  intro L G0 H0 G H σ e P Q g hu kk
  obtain ⟨q0, o, ho, hu⟩ := hu
  obtain ⟨a, hO, h1, h2, h3, h4, h5, h6, _⟩ := g.slot i _ (nth_get ho (by simp))
  refine ⟨_, h1, ?_⟩
  refine l L G0 H0 G H σ e _ _ g hu fun vs ds G1 H1 s1 hds q => ?_
  obtain ⟨hh, q⟩ := q
  have g1 := g.step s1
  have ga : G1 a = none := s1.new a h2 (by rw [h5]; simp) h4
  have haH : H1 a = some hO := s1.fr0 h2 h5
  have sb := sub_upd (o := hO) ga
  have ex2 : Ex (L2.upd G1 a hO) H1 := fun c u h => by
    by_cases z : c = a
    · subst z; rw [upd_same] at h; cases h; exact .inl haH
    · rw [upd_ne z] at h; exact (g1.ex c u h).mono sb
  show spN X.K f ((.ref a :: vs) ++ []) H1 Q E0
  rw [List.append_nil]
  refine ⟨_, o.d :: ds, _, ex2, ⟨_, _, rfl, repO_rep (h6.mono s1.g) sb upd_same, hds.mono sb⟩, q, fun v r G' H' s hr hp => ?_⟩
  obtain ⟨d, rfl, fl, hp⟩ := hp
  have st := after_del (b := b) hh (h6.mono s1.g) ga h2 haH s.some
  exact kk v (.sh d) _ H' (s1.trans st) (rep_del (s.g _ _ upd_same) hh (((h6.mono s1.g).mono sb).mono s.g) fl hr) hp
/-- ahead of it the source of draws -/
def uCallBP (f : FS) (j i : Nat) (ua : DA) : DE := fun e P => nth e j = .bag ∧ ∃ q o, nth e i = .own q o ∧ ua e fun ds => hiO o = true ∧ f (o.d :: ds) fun r => ∃ d, r = .sh d ∧ lowD d = true ∧ P (.sh d)
theorem d_callBP {x y z : Str} {i j k : Nat} {ps : List Str} {f : FS} {es : List Expr} {ua : DA} {p px py pos : Pos} (F : Known X.prog X.w X.K X.mg X.base x k ps (spB X.K f)) (hr : Room k X.A) (ha : PDA X b es ua) (hg : Gl X x := by rfl)
    (hdb : (x == ("__debug__" : Str)) = false := by decide) (hN : X.N[i]? = some y := by rfl) (hv : Vis X.env.scope y := by first | exact Or.inl rfl | exact Or.inr (Or.inl rfl) | exact Or.inr (Or.inr rfl)) (hd : (y == ("__debug__" : Str)) = false := by decide) (hcd : (y == ("__classdict__" : Str)) = false := by decide)
    (hNz : X.N[j]? = some z := by rfl) (hvz : Vis X.env.scope z := by first | exact Or.inl rfl | exact Or.inr (Or.inl rfl) | exact Or.inr (Or.inr rfl)) (hdz : (z == ("__debug__" : Str)) = false := by decide) (hcz : (z == ("__classdict__" : Str)) = false := by decide)
    (he : starEach (.Name y px :: es) X.env = (false, eval (.Name y px) X.env) :: starEach es X.env := by rfl) (hez : starEach (.Name z py :: .Name y px :: es) X.env = (false, eval (.Name z py) X.env) :: starEach (.Name y px :: es) X.env := by rfl) (hpl : (backTo pos (starEach (.Name y px :: es) X.env)).any (·.1) = false := by rfl) : PD X b (.Call (.Name x p) (.Name z py :: .Name y px :: es) [] pos) (uCallBP f j i ua) := by
  obtain ⟨fa, fd, F, hm, hk, hb⟩ := F
  obtain ⟨t, pa, l⟩ := ha
  refine ⟨_, pe_call F hr hg hm hk hb .nil pass0 (pa_cons (pe_var hNz hvz hdz hcz) (pa_cons (pe_var hN hv hd hcd) pa he) hez) hdb hez hpl, ?_⟩
  intro L G0 H0 G H σ e P Q g hu kk
  obtain ⟨hj, q0, o, ho, hu⟩ := hu
  obtain ⟨ab, ea, hs⟩ := g.slot j _ (nth_get hj (by simp))
  obtain ⟨a, hO, h1, h2, h3, h4, h5, h6, _⟩ := g.slot i _ (nth_get ho (by simp))
  refine ⟨_, hs, _, h1, ?_⟩
  refine l L G0 H0 G H σ e _ _ g hu fun vs ds G1 H1 s1 hds q => ?_
  obtain ⟨hh, q⟩ := q
  have g1 := g.step s1
  have ga : G1 a = none := s1.new a h2 (by rw [h5]; simp) h4
  have haH : H1 a = some hO := s1.fr0 h2 h5
  have sb := sub_upd (o := hO) ga
  have ex2 : Ex (L2.upd G1 a hO) H1 := fun c u h => by
    by_cases z : c = a
    · subst z; rw [upd_same] at h; cases h; exact .inl haH
    · rw [upd_ne z] at h; exact (g1.ex c u h).mono sb
  have nab : ab ≠ a := fun z => h2 (by rw [ea, z])
  have hbag : BagOk (L2.upd G1 a hO) H1 ab := by
    obtain ⟨b1, q, ns, i, n, w, b2, b3, b4⟩ := g1.bag ab ea
    exact ⟨by rw [upd_ne nab]; exact b1, q, ns, i, n, w, b2, sb _ _ b3, b4⟩
  show spB X.K f (.ref ab :: (.ref a :: vs) ++ []) H1 Q E0
  rw [List.append_nil]
  refine ⟨ab, _, _, o.d :: ds, _, rfl, ex2, hbag, ⟨_, _, rfl, repO_rep (h6.mono s1.g) sb upd_same, hds.mono sb⟩, q, fun v r G' H' s hr hp => ?_⟩
  rw [← ea] at s
  obtain ⟨d, rfl, fl, hp⟩ := hp
  have st := after_del hh (h6.mono s1.g) ga h2 haH s
  exact kk v (.sh d) _ H' (s1.trans st) (rep_del (s.g _ _ upd_same) hh (((h6.mono s1.g).mono sb).mono s.g) fl hr) hp
/-! ### bit_length, count of numbers -/
def fBits (d : D) (P : R → Prop) : Prop := ∃ n : Nat, d = .int n ∧ P (.sh (.int (Tm.bl n : Nat)))
theorem intBits_bl (n : Nat) : Builtin.Int.intBits (n : Int) = Tm.bl n := by
  unfold Builtin.Int.intBits Tm.bl
  by_cases h : n = 0
  · subst h; rfl
  · have q : ¬ (((n : Int) == 0) = true) := by simpa using h
    rw [if_neg q, if_neg h]
    rfl
theorem d_bits {o : Expr} {uo : DE} {apos pos : Pos} (ho : PD X b o uo)
    (hf : ∀ {to : TE}, PE X o to → PE X (.Call (.Attribute o "bit_length" apos) [] [] pos) (tBits to) := by exact fun h1 => pe_bits h1) : PD X b (.Call (.Attribute o "bit_length" apos) [] [] pos) (uB fBits uo) := by
  obtain ⟨t1, p1, l1⟩ := ho
  refine ⟨_, hf p1, ?_⟩
  intro L G0 H0 G H σ e P Q g hu k
  refine l1 L G0 H0 G H σ e _ _ g hu fun v1 r1 G1 H1 s1 hr1 q1 => ?_
  have t1 := hr1.top (g.step s1)
  obtain ⟨n, hn, q1⟩ := q1
  rw [hn] at t1
  cases t1
  refine ⟨_, rfl, ?_⟩
  rw [intBits_bl]
  exact k (.int (Tm.bl n : Nat)) (.sh (.int (Tm.bl n : Nat))) G1 H1 s1 rfl q1
def rCntI (K : PySem.W.Frag) : V → List V → Hp → VK → Prop := fun x xs H Q => ∃ (p : Addr) (zs : List Int) (k : Int), x = .ref p ∧ xs = [.int k] ∧ SqL K H p (zs.map V.int) ∧ Q (.int (zs.count k : Nat)) H
theorem mt_lcountI : MtR X "list.count" (rCntI X.K) := by
  intro pins s σ H x xs v us Q inv rx rxs hyp
  obtain ⟨p, zs, k, rfl, rfl, hs, q⟩ := hyp
  cases rx
  obtain ⟨u, rfl, t, rfl⟩ := rxs.one
  obtain ⟨its, rv, pl, _⟩ := inv.list hs
  exact count_list_ints pl.isList rv.ints ⟨.int (zs.count k : Nat), H, inv.tok _, ⟨s.toks, rfl⟩, q⟩
def fCountI (d1 d2 : D) (P : R → Prop) : Prop := ∃ (zs : List Int) (k : Int), d1 = .lst (zs.map .int) ∧ d2 = .int k ∧ P (.sh (.int (zs.count k : Nat)))
theorem lm_countI : LM K (rCntI K) fCountI := by
  rintro b L G0 H0 G H σ e d1 d2 x y P Q g h1 h2 ⟨zs, z, rfl, rfl, p⟩ k
  obtain ⟨a, vs, rfl, ha, hr⟩ := h1
  cases h2
  rw [repL_ints hr] at ha
  exact ⟨a, zs, z, rfl, rfl, SqL.of ha, k _ (.sh (.int _)) G H (Stp.refl g.ex) rfl p⟩
theorem d_countI {o a : Expr} {uo u : DE} {apos pos : Pos} (ho : PD X b o uo) (h : PD X b a u)
    (hf : ∀ {to te : TE}, PE X o to → PE X a te → PE X (.Call (.Attribute o "count" apos) [a] [] pos) (tBM X.K "list" (rCntI X.K) to (tCons te tNil)) := by exact fun h1 h2 => pe_bm PySem.F.plainAttrs_list PySem.F.slot_list_count PySem.F.type_list_count mt_lcountI h1 (pa_cons h2 pa_nil)) :
    PD X b (.Call (.Attribute o "count" apos) [a] [] pos) (uML fCountI uo u) := by
  obtain ⟨t1, p1, l1⟩ := ho
  obtain ⟨t2, p2, l2⟩ := h
  exact ⟨_, hf p1 p2, le_ml lm_countI l1 l2⟩
end
/-! ### a call with keywords -/
/-- n values by position, the others by these names; put into the parameters' order -/
def kput {α : Type} (n m : Nat) (π : List Nat) (us ws : List α) : List α := if us.length = n ∧ ws.length = m then π.filterMap fun i => (us ++ ws)[i]? else []
abbrev KB (K : PySem.W.Frag) (fd : FuncData) (ps : List Str) (n : Nat) (ks : List Str) (π : List Nat) : Prop := KBinds K fd ps ks (kput n ks.length π) (kput n ks.length π)
theorem vals_get {vs : List V} {us : List Value} (h : Vals vs us) (i : Nat) : (∃ v u, vs[i]? = some v ∧ us[i]? = some u ∧ RelV v u) ∨ (vs[i]? = none ∧ us[i]? = none) := by
  induction h generalizing i with
  | nil => exact .inr ⟨rfl, rfl⟩
  | cons r h ih =>
    cases i with
    | zero => exact .inl ⟨_, _, rfl, rfl, r⟩
    | succ i => exact ih i
theorem vals_fm {vs : List V} {us : List Value} (h : Vals vs us) : ∀ π : List Nat, Vals (π.filterMap fun i => vs[i]?) (π.filterMap fun i => us[i]?)
  | [] => .nil
  | i :: π => by
    rcases vals_get h i with ⟨v, u, h1, h2, r⟩ | ⟨h1, h2⟩
    · rw [List.filterMap_cons_some h1, List.filterMap_cons_some h2]
      exact .cons r (vals_fm h π)
    · rw [List.filterMap_cons_none h1, List.filterMap_cons_none h2]
      exact vals_fm h π
theorem vals_app {vs ws : List V} {us xs : List Value} (h : Vals vs us) (h' : Vals ws xs) : Vals (vs ++ ws) (us ++ xs) := by
  induction h with
  | nil => exact h'
  | cons r h ih => exact .cons r ih
theorem kb_mk {K : PySem.W.Frag} {fd : FuncData} {ps : List Str} {n : Nat} {ks : List Str} {π : List Nat} (h0 : ps ≠ [])
    (h : ∀ us ws : List Value, us.length = n → ws.length = ks.length → bindArgs fd ⟨us, ks.zip ws⟩ = pure (ps.zip (π.filterMap fun i => (us ++ ws)[i]?))) : KB K fd ps n ks π where
  to := fun s us ws _ hl => by
    unfold kput at hl ⊢
    split at hl
    · rename_i c
      rw [if_pos c]
      exact .of_eq (h us ws c.1 c.2)
    · cases ps with
      | nil => exact absurd rfl h0
      | cons p ps => simp at hl
  rel := fun {vs us zs ws} h1 h2 => by
    unfold kput
    rw [h1.length, h2.length]
    split
    · exact vals_fm (vals_app h1 h2) π
    · exact .nil
structure KnownK (P : Program) (w : World) (K : PySem.W.Frag) (mg : Str → Option Value) (base : Heap) (x : Str) (k : Nat) (ps : List Str) (pats : List (Nat × List Str × List Nat)) (sp : Sp) : Prop where
  ex : ∃ f fd, FnOk P w K mg base CX0 k f fd ps sp ∧ mg x = some (.ref f) ∧ PySem.W.keepIn K (.ref f) = true ∧ ∀ q ∈ pats, KB K fd ps q.1 q.2.1 q.2.2
/-- a def of the text stands at its name; it is called with keywords -/
structure HereK (K : PySem.W.Frag) (mg : Str → Option Value) (x : Str) (st : Stmt) (ps : List Str) (pats : List (Nat × List Str × List Nat)) : Prop where
  ex : ∃ f fd, Fun K x x st f fd ∧ mg x = some (.ref f) ∧ ∀ q ∈ pats, KB K fd ps q.1 q.2.1 q.2.2
theorem hereK_mk {K : PySem.W.Frag} {mg : Str → Option Value} {h : Heap} {x : Str} {st : Stmt} {ps : List Str} {pats : List (Nat × List Str × List Nat)} {f : Addr} {oc : Value} {od an : Option Addr} {osl : Array (Option Value)} {kV doc pm cdv ct : Value} (X : K.In h) (G : h.Ns mainGlobals mg) (a : PySem.W.nsIn K mainGlobals x = some (some (.ref f)))
    (l : K.lookup f = some ⟨oc, od, .func (PySem.W.fnOf x x (defArgs st) (defBody st) (defScope st) .none kV doc pm an cdv ct), osl⟩) (c : PySem.W.codeIn K cdv x = true) (k : PySem.W.keepIn K (.ref f) = true) (h0 : ps ≠ [])
    (hb : ∀ q ∈ pats, ∀ (kV doc pm : Value) (an : Option Addr) (cdv ct : Value) (us ws : List Value), us.length = q.1 → ws.length = q.2.1.length → bindArgs (PySem.W.fnOf x x (defArgs st) (defBody st) (defScope st) .none kV doc pm an cdv ct) ⟨us, q.2.1.zip ws⟩ = pure (ps.zip (q.2.2.filterMap fun i => (us ++ ws)[i]?))) : HereK K mg x st ps pats :=
  ⟨f, _, fun_mk l c k, PySem.W.mg_of X G a, fun q hq => kb_mk h0 fun us ws h1 h2 => hb q hq kV doc pm an cdv ct us ws h1 h2⟩
section
variable {P : Program} {w : World} {K : PySem.W.Frag} {mg : Str → Option Value} {base : Heap}
theorem fn_dataK {x qual : Str} {st : Stmt} {f : Addr} {fd : FuncData} {N ps : List Str} {pats : List (Nat × List Str × List Nat)} {k : Nat} {fs : FS} {u : DS} (F : Fun K x qual st f fd) (hm : mg x = some (.ref f)) (hbi : ∀ q ∈ pats, KB K fd ps q.1 q.2.1 q.2.2) (S : FnScope N ps (defScope st)) (len : ∀ ds P, fs ds P → ds.length = ps.length)
    (hb : ∀ (cdv : Value) (A : Around) (outer : List Env) (s : Shared) (H : Hp) (E : XK), Room k (A.deeper (envOfC qual (defScope st) s.heap.objs.size f cdv)) → PDSs (cxOf CX0 P w K mg base N qual (defScope st) f cdv A outer s H E).nox (bN none) (defBody st) u)
    (hu : ∀ ds P, fs ds P → u ⟨fun _ => P (.sh .non), fun r _ => P r, fun _ => False, fun _ => False⟩ (env0 N ds)) : KnownK P w K mg base x (k + 1) ps pats (spN K fs) := by
  refine ⟨f, fd, F.ok S (fun vs H Q E h => ?_) (fun cdv A outer s H vs Q E hr h => ?_), hm, F.kp, hbi⟩
  · obtain ⟨G, ds, P, _, hr, hf, _⟩ := h
    rw [hr.length]; exact len ds P hf
  · obtain ⟨G, ds, P', ex, hds, hf, kk⟩ := h
    obtain ⟨t, p, l⟩ := hb cdv A outer s H E hr
    refine ⟨t, p, l [] G H G H _ _ ⟨fun _ => P' (.sh .non), fun r _ => P' r, fun _ => False, fun _ => False⟩ _ (good0 ex hds) ⟨fun G' H' σ e g h => ?_, fun G' H' σ e v r g hr h => ?_, fun G' H' σ e g h => h.elim, fun G' H' σ e g h => h.elim⟩ (hu ds P' hf)⟩
    · exact kk .non (.sh .non) G' H' g.stp rfl h
    · exact kk v r G' H' g.stp hr h
end
section
variable {X : Cx} {b : Bg} {K : PySem.W.Frag}
/-- the values of the keywords -/
structure PDK (X : Cx) (b : Bg) (kws : List Keyword) (u : DA) : Prop where
  ex : ∃ t, PK X kws t ∧ LA X.K b t u
theorem dk_nil : PDK X b [] uNil := ⟨_, pk_nil, la_nil⟩
theorem dk_cons {nm : Option Str} {kpos : Pos} {a : Expr} {kws : List Keyword} {u : DE} {ua : DA} (h1 : PD X b a u) (h2 : PDK X b kws ua) : PDK X b (⟨nm, a, kpos⟩ :: kws) (uCons u ua) := by
  obtain ⟨t1, p1, l1⟩ := h1
  obtain ⟨t2, p2, l2⟩ := h2
  exact ⟨_, pk_cons p1 p2, la_cons l1 l2⟩
theorem repL_fm {G : Hp} {xs : List D} {vs : List V} (h : RepL K G xs vs) : ∀ π : List Nat, RepL K G (π.filterMap fun i => xs[i]?) (π.filterMap fun i => vs[i]?)
  | [] => rfl
  | i :: π => by
    cases q : xs[i]? with
    | some x =>
      obtain ⟨v, e, hv⟩ := h.get q
      rw [List.filterMap_cons_some (by exact q), List.filterMap_cons_some (by exact e)]
      exact ⟨v, _, rfl, hv, repL_fm h π⟩
    | none =>
      have e : vs[i]? = none := by
        have := h.length
        rw [List.getElem?_eq_none_iff] at q ⊢
        omega
      rw [List.filterMap_cons_none (by exact q), List.filterMap_cons_none (by exact e)]
      exact repL_fm h π
theorem repL_kput {G : Hp} {xs ys : List D} {vs ws : List V} {n m : Nat} {π : List Nat} (h : RepL K G xs vs) (h' : RepL K G ys ws) : RepL K G (kput n m π xs ys) (kput n m π vs ws) := by
  unfold kput
  rw [h.length, h'.length]
  split
  · exact repL_fm (h.append h') π
  · rfl
def uCallK (f : FS) (n m : Nat) (π : List Nat) (ua uk : DA) : DE := fun e P => ua e fun ds => uk e fun zs => f (kput n m π ds zs) P
theorem d_callK {x : Str} {k n : Nat} {ks : List Str} {π : List Nat} {ps : List Str} {pats : List (Nat × List Str × List Nat)} {f : FS} {a : Expr} {es : List Expr} {kws : List Keyword} {ua uk : DA} {p pos : Pos} (F : KnownK X.prog X.w X.K X.mg X.base x k ps pats (spN X.K f)) (hr : Room k X.A) (hp : (n, ks, π) ∈ pats) (ha : PDA X b (a :: es) ua) (hkw : PDK X b kws uk) (hg : Gl X x := by rfl)
    (hall : (backToKw pos (keywordEach kws X.env)).all (·.1.isSome) = true := by rfl) (hks : (backToKw pos (keywordEach kws X.env)).filterMap (·.1) = ks := by rfl)
    (hdb : (x == ("__debug__" : Str)) = false := by decide) (he : starEach (a :: es) X.env = (false, eval a X.env) :: starEach es X.env := by rfl)
    (hpl : ((backTo pos (starEach (a :: es) X.env)).any (·.1) || (backToKw pos (keywordEach kws X.env)).any (·.1.isNone)) = false := by rfl) : PD X b (.Call (.Name x p) (a :: es) kws pos) (uCallK f n ks.length π ua uk) := by
  obtain ⟨fa, fd, F, hm, hk, hb⟩ := F
  have hb := hb _ hp
  obtain ⟨t, pa, l⟩ := ha
  obtain ⟨tk, pk, lk⟩ := hkw
  refine ⟨_, pe_callK F hr hg hm hk hb pass0 pa pk hall hks hdb he hpl, ?_⟩
  intro L G0 H0 G H σ e P Q g hu k
  refine l L G0 H0 G H σ e _ _ g hu fun vs ds G1 H1 s1 hds q => ?_
  have g1 := g.step s1
  refine lk L G0 H0 G1 H1 σ e _ _ g1 q fun ws zs G2 H2 s2 hzs q => ?_
  have g2 := g1.step s2
  show spN X.K f _ H2 Q E0
  refine ⟨G2, _, P, g2.ex, repL_kput (hds.mono s2.g) hzs, q, fun v r G' H' s hr hp => ?_⟩
  have s' : Stp b [] G2 H2 G' H' := s.some
  have s12 := s1.trans s2
  refine k v r G' H' (s12.trans s') ?_ hp
  cases r with
  | sh d => exact hr
  | ow o =>
    obtain ⟨a, ho, h1, _, h3, h4⟩ := hr
    have hb : b.a ≠ some a := g2.nb h3
    exact ⟨a, ho, h1, hb, s12.back a hb h3, h4⟩
  | al i o => obtain ⟨⟨_, h⟩, _⟩ := hr; simp at h
end
end DL
/-! DL32: elimination over bit rows (plain mathematics, k40, k41). -/
namespace Tm
open PySem L2 DL PyProof.Rows
theorem and_nat (a b : Nat) : Builtin.bitAnd (a : Int) (b : Int) = ((a &&& b : Nat) : Int) := by
  rw [bitAnd_pp (Int.natCast_nonneg a) (Int.natCast_nonneg b), Int.toNat_natCast, Int.toNat_natCast]
theorem xor_and : ∀ a b : Nat, (a ^^^ b) + 2 * (a &&& b) = a + b := by
  intro a
  induction a using Nat.strongRecOn with
  | ind a ih =>
    intro b
    by_cases h : a = 0
    · subst h; simp
    · have i := ih (a / 2) (by omega) (b / 2)
      have e1 : (a ^^^ b) / 2 = a / 2 ^^^ b / 2 := Nat.xor_div_two
      have e2 : (a &&& b) / 2 = a / 2 &&& b / 2 := Nat.and_div_two
      have e3 : (a ^^^ b).testBit 0 = (a.testBit 0 ^^ b.testBit 0) := Nat.testBit_xor ..
      have e4 : (a &&& b).testBit 0 = (a.testBit 0 && b.testBit 0) := Nat.testBit_and ..
      rw [Nat.testBit_zero, Nat.testBit_zero, Nat.testBit_zero] at e3 e4
      rw [← e1, ← e2] at i
      generalize a ^^^ b = x at *
      generalize a &&& b = y at *
      clear ih e1 e2
      rcases Nat.mod_two_eq_zero_or_one a with h1 | h1 <;> rcases Nat.mod_two_eq_zero_or_one b with h2 | h2 <;> simp only [h1, h2] at e3 e4 <;> simp at e3 e4 <;> omega
theorem xor_nat (a b : Nat) : Builtin.bitXor (a : Int) (b : Int) = ((a ^^^ b : Nat) : Int) := by
  rw [bitXor_and, and_nat]
  have := xor_and a b
  omega
theorem and_two (a k : Nat) : decide (((a &&& 2 ^ k : Nat) : Int) ≠ 0) = a.testBit k := by
  have h : a &&& 2 ^ k = if a.testBit k then 2 ^ k else 0 := by
    apply Nat.eq_of_testBit_eq
    intro j
    rw [Nat.testBit_and, Nat.testBit_two_pow]
    by_cases e : k = j
    · subst e
      cases q : a.testBit k <;> simp [Nat.testBit_two_pow]
    · cases q : a.testBit k <;> simp [Nat.testBit_two_pow, e]
  rw [h]
  cases q : a.testBit k
  · simp
  · have := Nat.two_pow_pos k
    rw [if_pos rfl]
    exact decide_eq_true (by omega)
abbrev Bs := List (Nat × Nat × Nat)
/-- a row and its mark reduced by a basis -/
def red (bs : Bs) : Nat → Nat → Nat → Nat × Nat
  | 0, r, m => (r, m)
  | f + 1, r, m => if 1 < r then match aget bs (bl r) with
    | some (o, n) => red bs f (r ^^^ o) (m ^^^ n)
    | none => (r, m) else (r, m)
/-- the entries stand at their number of bits -/
def okB (bs : Bs) : Prop := ∀ q ∈ bs, bl q.2.1 = q.1 ∧ 2 ≤ q.1
theorem bl_pos {n : Nat} (h : 1 < n) : 2 ≤ bl n := by
  have : ¬ bl n ≤ 1 := fun z => by have := bl_lt.mp z; omega
  omega
theorem okB_get {bs : Bs} (h : okB bs) {n o m : Nat} (g : aget bs n = some (o, m)) : bl o = n ∧ 2 ≤ n := h _ (aget_in g)
theorem red_lt {bs : Bs} (h : okB bs) {r o m : Nat} (g : aget bs (bl r) = some (o, m)) : bl (r ^^^ o) < bl r := by
  have q := okB_get h g
  obtain ⟨k, hk⟩ : ∃ k, bl r = k + 1 := ⟨bl r - 1, by omega⟩
  have := bl_xor hk (q.1.trans hk)
  omega
theorem red_more {bs : Bs} (h : okB bs) : ∀ (f g r m : Nat), bl r ≤ f → bl r ≤ g → red bs f r m = red bs g r m
  | 0, 0, _, _, _, _ => rfl
  | 0, g + 1, r, m, hf, _ => by
    have : ¬ 1 < r := fun z => by have := bl_pos z; omega
    unfold red; rw [if_neg this]
  | f + 1, 0, r, m, _, hg => by
    have : ¬ 1 < r := fun z => by have := bl_pos z; omega
    unfold red; rw [if_neg this]
  | f + 1, g + 1, r, m, hf, hg => by
    unfold red
    by_cases c : 1 < r
    · rw [if_pos c, if_pos c]
      cases q : aget bs (bl r) with
      | none => rfl
      | some p =>
        obtain ⟨o, n⟩ := p
        have := red_lt h q
        exact red_more h f g _ _ (by omega) (by omega)
    · rw [if_neg c, if_neg c]
/-- what a reduction keeps -/
theorem red_inv {bs : Bs} (I : Nat → Nat → Prop) (hI : ∀ r m n o p, I r m → aget bs n = some (o, p) → I (r ^^^ o) (m ^^^ p)) : ∀ (f r m : Nat), I r m → I (red bs f r m).1 (red bs f r m).2
  | 0, r, m, h => h
  | f + 1, r, m, h => by
    unfold red
    split
    · split
      · rename_i o p q
        exact red_inv I hI f _ _ (hI _ _ _ _ _ h q)
      · exact h
    · exact h
theorem red_end {bs : Bs} (h : okB bs) : ∀ (f r m : Nat), bl r ≤ f → 1 < (red bs f r m).1 → aget bs (bl (red bs f r m).1) = none
  | 0, r, m, hf, c => by
    have := bl_pos (show 1 < r from c); omega
  | f + 1, r, m, hf, c => by
    unfold red at c ⊢
    by_cases d : 1 < r
    · rw [if_pos d] at c ⊢
      cases q : aget bs (bl r) with
      | none => rw [q] at c; exact q
      | some p =>
        obtain ⟨o, n⟩ := p
        rw [q] at c
        have := red_lt h q
        exact red_end h f _ _ (by omega) c
    · rw [if_neg d] at c
      exact absurd c d
abbrev Eqn := List Nat × Nat
def rowE (q : Eqn) : Nat := rowN q.1 q.2
def redE (bs : Bs) (q : Eqn) (i : Nat) : Nat × Nat := red bs (bl (rowE q)) (rowE q) (2 ^ i)
/-- the rows one after the other: a contradiction's mark, or a basis -/
def elim : List Eqn → Nat → Bs → Sum Nat Bs
  | [], _, bs => .inr bs
  | q :: qs, i, bs => if (redE bs q i).1 = 1 then .inl (redE bs q i).2 else
    if 1 < (redE bs q i).1 then elim qs (i + 1) (bs ++ [(bl (redE bs q i).1, redE bs q i)]) else elim qs (i + 1) bs
/-- what the basis is after some equations -/
structure Elim (c : Nat) (eqs : List Eqn) (bs : Bs) : Prop where
  ok : okB bs
  nd : (bs.map (·.1)).Nodup
  small : ∀ q ∈ bs, q.1 ≤ c + 1
  low : ∀ q ∈ bs, q.2.2 < 2 ^ eqs.length
  comb : ∀ q ∈ bs, q.2.1 = comb (fun j => rowE (eqs.getD j ([], 0))) eqs.length q.2.2
  span : ∀ x, (∀ q ∈ bs, fR x q.2.1 = false) → ∀ q ∈ eqs, fR x (rowE q) = false
  len : bs.length ≤ eqs.length
structure EqOk (c : Nat) (q : Eqn) : Prop where
  nd : q.1.Nodup
  lt : ∀ u ∈ q.1, u < c
  v : q.2 ≤ 1
theorem row_bl {c : Nat} {q : Eqn} (h : EqOk c q) : bl (rowE q) ≤ c + 1 := by
  rw [bl_lt]
  refine Nat.lt_pow_two_of_testBit _ fun j hj => ?_
  obtain ⟨k, rfl⟩ : ∃ k, j = k + 1 := ⟨j - 1, by omega⟩
  unfold rowE
  rw [(rowN_bit q.2 h.v q.1 h.nd).2 k]
  exact decide_eq_false fun m => by have := h.lt _ m; omega
theorem comb_more {e e' : Nat → Nat} : ∀ {N m : Nat}, (∀ j < N, e j = e' j) → comb e N m = comb e' N m
  | 0, _, _ => rfl
  | N + 1, m, h => by rw [comb_succ, comb_succ, comb_more fun j hj => h j (by omega), h N (by omega)]
theorem comb_low (e : Nat → Nat) : ∀ {N m n : Nat}, m < 2 ^ N → N ≤ n → comb e n m = comb e N m
  | N, m, 0, h, hn => by rw [show N = 0 by omega]
  | N, m, n + 1, h, hn => by
    by_cases q : N = n + 1
    · rw [q]
    · rw [comb_succ, Nat.testBit_lt_two_pow (Nat.lt_of_lt_of_le h (Nat.pow_le_pow_right (by decide) (by omega)))]
      exact comb_low e h (by omega)
theorem xor_bl {a b k : Nat} (ha : bl a ≤ k) (hb : bl b ≤ k) : bl (a ^^^ b) ≤ k := bl_lt.mpr (Nat.xor_lt_two_pow (bl_lt.mp ha) (bl_lt.mp hb))
theorem getD_snoc {eqs : List Eqn} {q d : Eqn} {j : Nat} (h : j < eqs.length) : (eqs ++ [q]).getD j d = eqs.getD j d := by
  rw [List.getD_eq_getElem?_getD, List.getD_eq_getElem?_getD, List.getElem?_append_left h]
theorem getD_last {eqs : List Eqn} {q d : Eqn} : (eqs ++ [q]).getD eqs.length d = q := by
  rw [List.getD_eq_getElem?_getD, List.getElem?_append_right (Nat.le_refl _), Nat.sub_self]; rfl
abbrev rowsF (eqs : List Eqn) : Nat → Nat := fun j => rowE (eqs.getD j ([], 0))
/-- one row reduced -/
theorem red_one {c : Nat} {eqs : List Eqn} {bs : Bs} {q : Eqn} (E : Elim c eqs bs) (hq : EqOk c q) :
    (redE bs q eqs.length).2 < 2 ^ (eqs.length + 1) ∧ bl (redE bs q eqs.length).1 ≤ c + 1 ∧ (redE bs q eqs.length).1 = comb (rowsF (eqs ++ [q])) (eqs.length + 1) (redE bs q eqs.length).2 ∧
    (∀ x, (∀ p ∈ bs, fR x p.2.1 = false) → fR x (redE bs q eqs.length).1 = fR x (rowE q)) ∧ (1 < (redE bs q eqs.length).1 → bl (redE bs q eqs.length).1 ∉ bs.map (·.1)) := by
  have key := red_inv (bs := bs) (fun r m => m < 2 ^ (eqs.length + 1) ∧ bl r ≤ c + 1 ∧ r = comb (rowsF (eqs ++ [q])) (eqs.length + 1) m ∧ ∀ x, (∀ p ∈ bs, fR x p.2.1 = false) → fR x r = fR x (rowE q)) (fun r m n o p ⟨h1, h2, h3, h4⟩ g => by
    have gi := aget_in g
    have l := E.low _ gi
    have sm := E.small _ gi
    have ok := E.ok _ gi
    have cb := E.comb _ gi
    dsimp only at l sm ok cb
    refine ⟨Nat.xor_lt_two_pow h1 (Nat.lt_of_lt_of_le l (Nat.pow_le_pow_right (by decide) (by omega))), xor_bl h2 (by omega), ?_, fun x hx => ?_⟩
    · rw [comb_xor, ← h3]
      congr 1
      rw [cb, comb_low _ l (Nat.le_succ _)]
      refine comb_more fun j hj => ?_
      show rowE _ = rowE _
      rw [getD_snoc hj]
    · rw [fR_xor, h4 x hx, hx _ gi]; cases fR x (rowE q) <;> rfl) (bl (rowE q)) (rowE q) (2 ^ eqs.length) ⟨Nat.pow_lt_pow_right (by decide) (Nat.lt_succ_self _), row_bl hq, by
      rw [comb_two, if_pos (Nat.lt_succ_self _)]
      show _ = rowE _
      rw [getD_last], fun x _ => rfl⟩
  refine ⟨key.1, key.2.1, key.2.2.1, key.2.2.2, fun h => ?_⟩
  have := red_end E.ok (bl (rowE q)) (rowE q) (2 ^ eqs.length) (Nat.le_refl _) h
  intro m
  have m' := aget_mem.mpr m
  rw [show bl (redE bs q eqs.length).1 = bl (red bs (bl (rowE q)) (rowE q) (2 ^ eqs.length)).1 from rfl, this] at m'
  cases m'
theorem Elim.nil (c : Nat) : Elim c [] [] := ⟨fun q h => (by cases h), List.nodup_nil, fun q h => (by cases h), fun q h => (by cases h), fun q h => (by cases h), fun x _ q h => (by cases h), Nat.le_refl _⟩
theorem Elim.comb' {c : Nat} {eqs : List Eqn} {bs : Bs} (E : Elim c eqs bs) (q : Eqn) {p : Nat × Nat × Nat} (hp : p ∈ bs) : p.2.1 = Tm.comb (rowsF (eqs ++ [q])) (eqs ++ [q]).length p.2.2 := by
  have h : Tm.comb (fun j => rowE (eqs.getD j ([], 0))) eqs.length p.2.2 = Tm.comb (rowsF (eqs ++ [q])) eqs.length p.2.2 := comb_more fun j hj => by
    show rowE _ = rowE _
    rw [getD_snoc hj]
  exact (E.comb p hp).trans (h.trans (comb_low _ (E.low p hp) (by simp)).symm)
theorem Elim.low' {c : Nat} {eqs : List Eqn} {bs : Bs} (E : Elim c eqs bs) (q : Eqn) {p : Nat × Nat × Nat} (hp : p ∈ bs) : p.2.2 < 2 ^ (eqs ++ [q]).length :=
  Nat.lt_of_lt_of_le (E.low p hp) (Nat.pow_le_pow_right (by decide) (by simp))
theorem Elim.skip {c : Nat} {eqs : List Eqn} {bs : Bs} {q : Eqn} (E : Elim c eqs bs) (hq : EqOk c q) (h1 : (redE bs q eqs.length).1 ≠ 1) (h2 : ¬ 1 < (redE bs q eqs.length).1) : Elim c (eqs ++ [q]) bs := by
  obtain ⟨k1, k2, k3, k4, k5⟩ := red_one E hq
  refine ⟨E.ok, E.nd, E.small, fun p hp => E.low' q hp, fun p hp => E.comb' q hp, fun x hx p hp => ?_, by rw [List.length_append]; have := E.len; omega⟩
  rcases List.mem_append.mp hp with hp | hp
  · exact E.span x hx p hp
  · rw [List.mem_singleton.mp hp, ← k4 x hx, show (redE bs q eqs.length).1 = 0 by omega]
    exact fR_zero x
theorem Elim.add {c : Nat} {eqs : List Eqn} {bs : Bs} {q : Eqn} (E : Elim c eqs bs) (hq : EqOk c q) (h2 : 1 < (redE bs q eqs.length).1) : Elim c (eqs ++ [q]) (bs ++ [(bl (redE bs q eqs.length).1, redE bs q eqs.length)]) := by
  obtain ⟨k1, k2, k3, k4, k5⟩ := red_one E hq
  have sp : ∀ {Z : Nat × Nat × Nat → Prop}, (∀ p ∈ bs, Z p) → Z (bl (redE bs q eqs.length).1, redE bs q eqs.length) → ∀ p ∈ bs ++ [(bl (redE bs q eqs.length).1, redE bs q eqs.length)], Z p := fun a b p hp => by
    rcases List.mem_append.mp hp with hp | hp
    · exact a p hp
    · rw [List.mem_singleton.mp hp]; exact b
  refine ⟨sp E.ok ⟨rfl, bl_pos h2⟩, ?_, sp E.small k2, sp (fun p hp => E.low' q hp) (by rw [List.length_append]; exact k1), sp (fun p hp => E.comb' q hp) (by rw [List.length_append]; exact k3), fun x hx p hp => ?_, by rw [List.length_append, List.length_append]; have := E.len; simp; omega⟩
  · rw [List.map_append]
    refine List.nodup_append.mpr ⟨E.nd, by simp, ?_⟩
    intro a ha b hb
    rw [List.map_singleton, List.mem_singleton] at hb
    intro z
    subst z
    rw [hb] at ha
    exact k5 h2 ha
  · have hx' : ∀ p ∈ bs, fR x p.2.1 = false := fun p hp => hx p (List.mem_append_left _ hp)
    rcases List.mem_append.mp hp with hp | hp
    · exact E.span x hx' p hp
    · rw [List.mem_singleton.mp hp, ← k4 x hx']
      exact hx _ (List.mem_append_right _ (List.mem_singleton.mpr rfl))
/-! the two answers -/
theorem fR_one (x : List Nat) : fR x 1 = true := by
  have h : ∀ (x : List Nat) (a : Bool), x.foldl (fun c u => c ^^ (1 : Nat).testBit (u + 1)) a = a := by
    intro x
    induction x with
    | nil => intro a; rfl
    | cons u x ih =>
      intro a
      rw [List.foldl_cons, ih]
      have : (1 : Nat).testBit (u + 1) = false := by rw [Nat.testBit_succ]; simp
      rw [this]; cases a <;> rfl
  exact h x true
theorem fR_comb {x : List Nat} {e : Nat → Nat} : ∀ {N m : Nat}, (∀ j < N, fR x (e j) = false) → fR x (comb e N m) = false
  | 0, m, h => by simp [comb, fR_zero]
  | N + 1, m, h => by
    rw [comb_succ]
    split
    · rw [fR_xor, fR_comb fun j hj => h j (by omega), h N (by omega)]; rfl
    · exact fR_comb fun j hj => h j (by omega)
/-- the solution over rows of ascending size -/
def solF (x : List Nat) (q : Nat × Nat) : List Nat := if (q.2 % 2 + (x.filter fun u => q.2.testBit (u + 1)).length) % 2 = 1 then x ++ [q.1 - 2] else x
def sol (rs : List (Nat × Nat)) : List Nat := rs.foldl solF []
theorem fR_par (x : List Nat) (r : Nat) : fR x r = decide ((r % 2 + (x.filter fun u => r.testBit (u + 1)).length) % 2 = 1) := by
  unfold fR
  rw [fold_count (fun u => r.testBit (u + 1)), Nat.testBit_zero]
  generalize (x.filter fun u => r.testBit (u + 1)).length = n
  rcases Nat.mod_two_eq_zero_or_one r with h | h <;> rw [h] <;> rcases Nat.mod_two_eq_zero_or_one n with h2 | h2
  · rw [decide_eq_false (show ¬ (0 + n) % 2 = 1 by omega), decide_eq_false (show ¬ n % 2 = 1 by omega)]; rfl
  · rw [decide_eq_true (show (0 + n) % 2 = 1 by omega), decide_eq_true (show n % 2 = 1 by omega)]; rfl
  · rw [decide_eq_true (show (1 + n) % 2 = 1 by omega), decide_eq_false (show ¬ n % 2 = 1 by omega)]; rfl
  · rw [decide_eq_false (show ¬ (1 + n) % 2 = 1 by omega), decide_eq_true (show n % 2 = 1 by omega)]; rfl
structure SolOk (c : Nat) (rs : List (Nat × Nat)) (x : List Nat) : Prop where
  lt : ∀ u ∈ x, u < c ∧ ∃ q ∈ rs, u + 2 = q.1
  up : x.Pairwise (· < ·)
  zero : ∀ q ∈ rs, fR x q.2 = false
theorem sol_ok {c : Nat} : ∀ {rs : List (Nat × Nat)}, (rs.map (·.1)).Pairwise (· < ·) → (∀ q ∈ rs, bl q.2 = q.1 ∧ 2 ≤ q.1 ∧ q.1 ≤ c + 1) → SolOk c rs (sol rs) := by
  intro rs
  refine snoc_ind (p := fun rs : List (Nat × Nat) => (rs.map (·.1)).Pairwise (· < ·) → (∀ q ∈ rs, bl q.2 = q.1 ∧ 2 ≤ q.1 ∧ q.1 ≤ c + 1) → SolOk c rs (sol rs)) (fun _ _ => ⟨fun u h => (by cases h), List.Pairwise.nil, fun q h => (by cases h)⟩) (fun rs q ih hp hq => ?_) rs
  · rw [List.map_append, List.pairwise_append] at hp
    have s := ih hp.1 fun p h => hq p (List.mem_append_left _ h)
    have lt : ∀ p ∈ rs, p.1 < q.1 := fun p h => hp.2.2 _ (List.mem_map_of_mem h) _ (by simp)
    obtain ⟨q1, q2, q3⟩ := hq q (List.mem_append_right _ (List.mem_singleton.mpr rfl))
    have low : ∀ u ∈ sol rs, u < q.1 - 2 := fun u hu => by
      obtain ⟨_, p, hp, e⟩ := s.lt u hu
      have := lt p hp
      omega
    have e : sol (rs ++ [q]) = solF (sol rs) q := by unfold sol; rw [List.foldl_append]; rfl
    have top : q.2.testBit (q.1 - 2 + 1) = true := by
      rw [show q.1 - 2 + 1 = q.1 - 1 by omega]
      exact bl_top (by omega)
    have hf := fR_par (sol rs) q.2
    rw [e]
    unfold solF
    by_cases c1 : (q.2 % 2 + ((sol rs).filter fun u => q.2.testBit (u + 1)).length) % 2 = 1
    · rw [if_pos c1]
      rw [decide_eq_true c1] at hf
      refine ⟨fun u hu => ?_, ?_, fun p hp => ?_⟩
      · rcases List.mem_append.mp hu with hu | hu
        · obtain ⟨h1, p, hp, e⟩ := s.lt u hu
          exact ⟨h1, p, List.mem_append_left _ hp, e⟩
        · rw [List.mem_singleton.mp hu]
          exact ⟨by omega, q, by simp, by omega⟩
      · rw [List.pairwise_append]
        exact ⟨s.up, by simp, fun a ha b hb => by rw [List.mem_singleton.mp hb]; exact low a ha⟩
      · rw [fR_snoc]
        rcases List.mem_append.mp hp with hp | hp
        · rw [s.zero p hp]
          have hb := hq p (List.mem_append_left _ hp)
          have := lt p hp
          rw [bl_above (n := p.2) (k := q.1 - 2 + 1) (by omega)]; rfl
        · rw [List.mem_singleton.mp hp, hf, top]; rfl
    · rw [if_neg c1]
      rw [decide_eq_false c1] at hf
      refine ⟨fun u hu => ?_, s.up, fun p hp => ?_⟩
      · obtain ⟨h1, p, hp, e⟩ := s.lt u hu
        exact ⟨h1, p, List.mem_append_left _ hp, e⟩
      · rcases List.mem_append.mp hp with hp | hp
        · exact s.zero p hp
        · rw [List.mem_singleton.mp hp]; exact hf
end Tm
namespace Tm
open PySem L2 DL PyProof.Rows
theorem elim_ok {c : Nat} : ∀ (qs pre : List Eqn) (bs : Bs), Elim c pre bs → (∀ q ∈ qs, EqOk c q) →
    (∀ m, elim qs pre.length bs = .inl m → m < 2 ^ (pre ++ qs).length ∧ comb (rowsF (pre ++ qs)) (pre ++ qs).length m = 1) ∧ (∀ bs', elim qs pre.length bs = .inr bs' → Elim c (pre ++ qs) bs')
  | [], pre, bs, E, _ => by
    rw [List.append_nil]
    exact ⟨fun m h => (by cases h), fun bs' h => by cases h; exact E⟩
  | q :: qs, pre, bs, E, hq => by
    have h0 := hq q List.mem_cons_self
    have hqs : ∀ p ∈ qs, EqOk c p := fun p h => hq p (List.mem_cons_of_mem _ h)
    have e : pre ++ q :: qs = (pre ++ [q]) ++ qs := by simp
    have el : pre.length + 1 = (pre ++ [q]).length := by simp
    obtain ⟨k1, k2, k3, k4, k5⟩ := red_one E h0
    unfold elim
    by_cases c1 : (redE bs q pre.length).1 = 1
    · rw [if_pos c1]
      refine ⟨fun m h => ?_, fun bs' h => (by cases h)⟩
      cases h
      refine ⟨Nat.lt_of_lt_of_le k1 (Nat.pow_le_pow_right (by decide) (by simp)), ?_⟩
      rw [c1] at k3
      refine (comb_low (N := pre.length + 1) _ k1 (by simp)).trans (Eq.trans ?_ k3.symm)
      refine comb_more fun j hj => ?_
      show rowE _ = rowE _
      rw [e]
      congr 1
      rw [List.getD_eq_getElem?_getD, List.getD_eq_getElem?_getD, List.getElem?_append_left (by simp; omega)]
    · rw [if_neg c1]
      by_cases c2 : 1 < (redE bs q pre.length).1
      · rw [if_pos c2, e, el]
        exact elim_ok qs _ _ (E.add h0 c2) hqs
      · rw [if_neg c2, e, el]
        exact elim_ok qs _ _ (E.skip h0 c1 c2) hqs
def leF (a b : Nat × Nat) : Bool := decide (a.1 ≤ b.1)
/-- the basis' rows, the short ones first -/
def rsOf (bs : Bs) : List (Nat × Nat) := (bs.map fun q => (q.1, q.2.1)).mergeSort leF
theorem rsOf_perm (bs : Bs) : (rsOf bs).Perm (bs.map fun q => (q.1, q.2.1)) := List.mergeSort_perm _ _
theorem rsOf_pw (bs : Bs) : (rsOf bs).Pairwise fun a b => a.1 ≤ b.1 := by
  have h := List.pairwise_mergeSort (le := leF) (fun a b c h h' => by simp [leF] at *; omega) (fun a b => by simp [leF]; omega) (bs.map fun q => (q.1, q.2.1))
  exact h.imp fun {a b} h => of_decide_eq_true h
theorem rsOf_sizes (bs : Bs) : (rsOf bs).map (fun q => (q.1 : Int)) = srtI (bs.map fun q => (q.1 : Int)) := by
  refine srtI_eq ?_ ?_
  · have := (rsOf_perm bs).map fun q : Nat × Nat => (q.1 : Int)
    rw [List.map_map] at this
    exact this
  · rw [List.pairwise_map]
    exact (rsOf_pw bs).imp fun {a b} h => by omega
theorem rsOf_get {bs : Bs} (h : (bs.map (·.1)).Nodup) {q : Nat × Nat} (hq : q ∈ rsOf bs) : ∃ m, aget bs q.1 = some (q.2, m) := by
  have := (rsOf_perm bs).mem_iff.mp hq
  obtain ⟨p, hp, rfl⟩ := List.mem_map.mp this
  exact ⟨p.2.2, aget_of h hp⟩
/-- what solve answers -/
def solveN (eqs : List Eqn) : Sum Nat (List Nat) := match elim eqs 0 [] with
  | .inl m => .inl m
  | .inr bs => .inr (sol (rsOf bs))
theorem sol_of {c : Nat} {eqs : List Eqn} {bs : Bs} (E : Elim c eqs bs) : SolOk c (rsOf bs) (sol (rsOf bs)) := by
  refine sol_ok ?_ fun q hq => ?_
  · have nd : ((rsOf bs).map (·.1)).Nodup := by
      have := (rsOf_perm bs).map (·.1)
      rw [List.map_map] at this
      exact this.nodup_iff.mpr E.nd
    have le : ((rsOf bs).map (·.1)).Pairwise (· ≤ ·) := by rw [List.pairwise_map]; exact rsOf_pw bs
    exact (le.and nd).imp fun {a b} h => by have := h.1; have := h.2; omega
  · have := (rsOf_perm bs).mem_iff.mp hq
    obtain ⟨p, hp, rfl⟩ := List.mem_map.mp this
    exact ⟨(E.ok p hp).1, (E.ok p hp).2, E.small p hp⟩
def holds (x : List Nat) (q : Eqn) : Prop := (q.1.filter fun u => decide (u ∈ x)).length % 2 = q.2
theorem holds_iff {c : Nat} {x : List Nat} {q : Eqn} (h : EqOk c q) (hx : x.Nodup) : holds x q ↔ fR x (rowE q) = false := by
  unfold rowE
  rw [fR_eqn h.v h.nd hx]
  unfold holds
  simp
theorem up_nodup {x : List Nat} (h : x.Pairwise (· < ·)) : x.Nodup := h.imp fun {a b} h => by omega
theorem solve_sol {c : Nat} {eqs : List Eqn} (h : ∀ q ∈ eqs, EqOk c q) {x : List Nat} (e : solveN eqs = .inr x) : x.Pairwise (· < ·) ∧ (∀ u ∈ x, u < c) ∧ ∀ q ∈ eqs, holds x q := by
  unfold solveN at e
  cases k : elim eqs 0 [] with
  | inl m => rw [k] at e; cases e
  | inr bs =>
    rw [k] at e
    cases e
    have E := (elim_ok eqs [] [] (Elim.nil c) h).2 bs k
    rw [List.nil_append] at E
    have s := sol_of E
    refine ⟨s.up, fun u hu => (s.lt u hu).1, fun q hq => (holds_iff (h q hq) (up_nodup s.up)).mpr (E.span _ (fun p hp => ?_) q hq)⟩
    exact s.zero (p.1, p.2.1) ((rsOf_perm bs).mem_iff.mpr (List.mem_map.mpr ⟨p, hp, rfl⟩))
theorem solve_con {c : Nat} {eqs : List Eqn} (h : ∀ q ∈ eqs, EqOk c q) {m : Nat} (e : solveN eqs = .inl m) : comb (rowsF eqs) eqs.length m = 1 := by
  unfold solveN at e
  cases k : elim eqs 0 [] with
  | inr bs => rw [k] at e; cases e
  | inl m' =>
    rw [k] at e
    cases e
    exact ((elim_ok eqs [] [] (Elim.nil c) h).1 _ k).2
theorem solve_none {c : Nat} {eqs : List Eqn} (h : ∀ q ∈ eqs, EqOk c q) {m : Nat} (e : solveN eqs = .inl m) {x : List Nat} (hx : x.Nodup) : ¬ ∀ q ∈ eqs, holds x q := by
  intro k
  have hc := solve_con h e
  have : fR x (comb (rowsF eqs) eqs.length m) = false := fR_comb fun j hj => by
    have ej : eqs.getD j ([], 0) = eqs[j] := by rw [List.getD_eq_getElem?_getD, List.getElem?_eq_getElem hj]; rfl
    show fR x (rowE _) = false
    rw [ej]
    exact (holds_iff (h _ (List.getElem_mem hj)) hx).mp (k _ (List.getElem_mem hj))
  rw [hc, fR_one] at this
  cases this
/-- the equations that a mark names -/
def named (N m : Nat) : List Nat := (List.range N).filter fun j => m.testBit j
theorem con_even {c : Nat} {eqs : List Eqn} (h : ∀ q ∈ eqs, EqOk c q) {m : Nat} (e : solveN eqs = .inl m) (u : Nat) : ((named eqs.length m).filter fun j => decide (u ∈ (eqs.getD j ([], 0)).1)).length % 2 = 0 := by
  have hc := solve_con h e
  have hb := comb_bit (rowsF eqs) (u + 1) eqs.length m
  rw [hc, show (1 : Nat).testBit (u + 1) = false by rw [Nat.testBit_succ]; simp] at hb
  have := of_decide_eq_false hb.symm
  have ef : (named eqs.length m).filter (fun j => decide (u ∈ (eqs.getD j ([], 0)).1)) = ((List.range eqs.length).filter fun j => m.testBit j).filter fun j => (rowsF eqs j).testBit (u + 1) := by
    unfold named
    refine List.filter_congr fun j hj => ?_
    have hj := List.mem_range.mp (List.mem_filter.mp hj).1
    have ej : eqs.getD j ([], 0) = eqs[j] := by rw [List.getD_eq_getElem?_getD, List.getElem?_eq_getElem hj]; rfl
    show _ = (rowE _).testBit _
    rw [ej]
    have o := h _ (List.getElem_mem hj)
    unfold rowE
    rw [(rowN_bit _ o.v _ o.nd).2 u]
  rw [ef]
  omega
theorem con_odd {c : Nat} {eqs : List Eqn} (h : ∀ q ∈ eqs, EqOk c q) {m : Nat} (e : solveN eqs = .inl m) : ((named eqs.length m).map fun j => (eqs.getD j ([], 0)).2).sum % 2 = 1 := by
  have hc := solve_con h e
  have hb := comb_bit (rowsF eqs) 0 eqs.length m
  rw [hc, show (1 : Nat).testBit 0 = true from rfl] at hb
  have := of_decide_eq_true hb.symm
  have es : ∀ l : List Nat, (∀ j ∈ l, j < eqs.length) → (l.map fun j => (eqs.getD j ([], 0)).2).sum = (l.filter fun j => (rowsF eqs j).testBit 0).length := by
    intro l
    induction l with
    | nil => intro _; rfl
    | cons j l ih =>
      intro hl
      have hj := hl j List.mem_cons_self
      have ej : eqs.getD j ([], 0) = eqs[j] := by rw [List.getD_eq_getElem?_getD, List.getElem?_eq_getElem hj]; rfl
      have o := h _ (List.getElem_mem hj)
      have er : (rowsF eqs j).testBit 0 = decide ((eqs.getD j ([], 0)).2 = 1) := by
        show (rowE _).testBit 0 = _
        rw [ej]
        unfold rowE
        rw [(rowN_bit _ o.v _ o.nd).1]
      have ov := o.v
      rw [List.map_cons, List.sum_cons, ih fun k hk => hl k (List.mem_cons_of_mem _ hk), List.filter_cons, er, ej]
      by_cases q : eqs[j].2 = 1
      · rw [if_pos (decide_eq_true q), List.length_cons]; omega
      · rw [if_neg (by simp [q])]; omega
  have h2 := es (named eqs.length m) fun j hj => List.mem_range.mp (List.mem_filter.mp hj).1
  rw [h2]
  exact this
theorem named_lt {N m j : Nat} (h : j ∈ named N m) : j < N := List.mem_range.mp (List.mem_filter.mp h).1
theorem named_up (N m : Nat) : (named N m).Pairwise (· < ·) := (List.pairwise_lt_range (n := N)).filter _
/-- numbers of texts -/
def nmsD (l : List Nat) : List D := l.map fun u : Nat => D.int u
theorem nmsD_len (l : List Nat) : (nmsD l).length = l.length := by unfold nmsD; rw [List.length_map]
theorem nmsD_map (l : List Nat) : nmsD l = (l.map fun u : Nat => (u : Int)).map D.int := by unfold nmsD; rw [List.map_map]; rfl
theorem setI_up {x : List Nat} (h : x.Pairwise (· < ·)) : setI (x.map fun u : Nat => (u : Int)) = x.map fun u : Nat => (u : Int) := by
  refine (setI_uniq ?_ ?_ fun y => Iff.rfl).symm
  · rw [List.pairwise_map]
    exact h.imp fun {a b} h => by unfold leI; exact decide_eq_true (by omega)
  · unfold List.Nodup
    rw [List.pairwise_map]
    exact h.imp fun {a b} h => by omega
end Tm
namespace DL
open PySem L2 PyProof.Rows
section
variable {X : Cx} {b : Bg} {K : PySem.W.Frag}
theorem fresh_sh {H0 : Hp} {σ : L2.St} {e : List Sl} {a : Addr} {i : Nat} {v : Option (Option V)} {w : Option V} {d : D} (h : Fresh H0 σ e a) : Fresh H0 (σ.set i w) (e.set i (.sh d)) a := by
  refine ⟨h.1, fun j q o hj => ?_⟩
  rw [get_set] at hj ⊢
  by_cases c : i = j
  · rw [if_pos c] at hj
    split at hj <;> cases hj
  · rw [if_neg c] at hj ⊢
    exact h.2 j q o hj
theorem repX_sh {H0 : Hp} {σ : L2.St} {e : List Sl} {G H : Hp} {i : Nat} {w : Option V} {d : D} {o : OD} {v : V} (h : RepX K b H0 σ e G H (.ow o) v) : RepX K b H0 (σ.set i w) (e.set i (.sh d)) G H (.ow o) v := by
  obtain ⟨a, ho, h1, h2, h3, h4⟩ := h
  exact ⟨a, ho, h1, h2, fresh_sh (v := none) h3, h4⟩
/-- a, b, c = x, y, z where the last stays new -/
def uPar3 (i j l : Nat) (own : Bool) (u1 u2 u3 : DE) : DS := fun DD e => u1 e (R.keep fun d1 => u2 e (R.keep fun d2 => u3 e fun r3 => r3.into own fun s3 => DD.nx (((e.set i (.sh d1)).set j (.sh d2)).set l s3)))
theorem ls_par3 {i j l : Nat} {t1 t2 t3 : TE} {u1 u2 u3 : DE} {own : Bool} (l1 : LE K b t1 u1) (l2 : LE K b t2 u2) (l3 : LE K b t3 u3) : LS K b (tAsg (tTup (tCons t1 (tCons t2 (tCons t3 tNil)))) (gTup K 3 (gCons (gName i) (gCons (gName j) (gCons (gName l) gNil))))) (uPar3 i j l own u1 u2 u3) := by
  intro L G0 H0 G H σ e DD D g ok hu
  refine l1 L G0 H0 G H σ e _ _ g hu fun v1 r1 G1 H1 s1 hr1 q1 => ?_
  obtain ⟨d1, G1', s1', hd1, q1⟩ := hr1.freeze s1 q1
  have g1 := g.step s1'
  refine l2 L G0 H0 G1' H1 σ e _ _ g1 q1 fun v2 r2 G2 H2 s2 hr2 q2 => ?_
  obtain ⟨d2, G2', s2', hd2, q2⟩ := hr2.freeze s2 q2
  have g2 := g1.step s2'
  refine l3 L G0 H0 G2' H2 σ e _ _ g2 q2 fun v3 r3 G3 H3 s3 hr3 q3 => ⟨by show 3 ≤ sizeLine; rw [sizeLine_eq]; decide, fun p hp => ?_⟩
  have g3 := g2.step s3
  have sm := Stp.made (b := b) (o := .tup [v1, v2, v3]) g3.ex hp
  have g4 := g3.step sm
  have g5 := (g4.setS i (hd1.mono (s2'.g.trans s3.g))).setS j (hd2.mono s3.g)
  have x3 : RepX K b H0 ((σ.set i (some v1)).set j (some v2)) ((e.set i (.sh d1)).set j (.sh d2)) G3 (L2.upd H3 p (.tup [v1, v2, v3])) r3 v3 := by
    cases r3 with
    | sh d => exact hr3
    | al k o => exact q3.elim
    | ow o =>
      obtain ⟨a, ho, e1, e2, e3, e4, e5, e6⟩ := hr3
      exact repX_sh (repX_sh ⟨a, ho, e1, e2, g2.fresh e2 e3, e4, by rw [upd_ne (ne_of_none e5 hp)]; exact e5, e6⟩)
  obtain ⟨s, G6, g6, q6, _⟩ := g5.into l x3 q3
  exact ⟨p, _, rfl, SqT.of upd_same, rfl, _, _, rfl, _, _, rfl, _, _, rfl, rfl, ok.nx _ _ _ _ g6 q6⟩
theorem ds_par3 {i j l : Nat} {x y z : Str} {a1 a2 a3 : Expr} {u1 u2 u3 : DE} (own : Bool) {px py pz pt pos : Pos} {kt k2 pt2} (hN : X.N.Nodup) (h1 : PD X b a1 u1) (h2 : PD X b a2 u2) (h3 : PD X b a3 u3) (hi : X.N[i]? = some x := by rfl) (hj : X.N[j]? = some y := by rfl) (hl : X.N[l]? = some z := by rfl)
    (hx : Loc X.env.scope x := by first | exact Or.inl rfl | exact Or.inr rfl) (hy : Loc X.env.scope y := by first | exact Or.inl rfl | exact Or.inr rfl) (hz : Loc X.env.scope z := by first | exact Or.inl rfl | exact Or.inr rfl)
    (fx : X.fn x = true ∨ X.env.scope.names.lookup x = some .local := by first | exact .inl rfl | exact .inr rfl) (fy : X.fn y = true ∨ X.env.scope.names.lookup y = some .local := by first | exact .inl rfl | exact .inr rfl) (fz : X.fn z = true ∨ X.env.scope.names.lookup z = some .local := by first | exact .inl rfl | exact .inr rfl)
    (hs1 : starEach (a1 :: [a2, a3]) X.env = (false, eval a1 X.env) :: starEach [a2, a3] X.env := by rfl) (hs2 : starEach (a2 :: [a3]) X.env = (false, eval a2 X.env) :: starEach [a3] X.env := by rfl) (hs3 : starEach (a3 :: []) X.env = (false, eval a3 X.env) :: starEach [] X.env := by rfl)
    (hc : X.calm = true := by rfl)
    (hs : swapsWithSole [.Tuple [.Name x px, .Name y py, .Name z pz] kt pt] (.Tuple [a1, a2, a3] k2 pt2) pos.line X.env = pure false := by rfl) (hw : swappedStores [.Tuple [.Name x px, .Name y py, .Name z pz] kt pt] (.Tuple [a1, a2, a3] k2 pt2) X.env = pure none := by rfl) :
    PDS X b (.Assign [.Tuple [.Name x px, .Name y py, .Name z pz] kt pt] (.Tuple [a1, a2, a3] k2 pt2) pos) (uPar3 i j l own u1 u2 u3) := by
  obtain ⟨t1, p1, l1⟩ := h1
  obtain ⟨t2, p2, l2⟩ := h2
  obtain ⟨t3, p3, l3⟩ := h3
  refine ⟨_, ps_asg (pe_tup (pa_cons p1 (pa_cons p2 (pa_cons p3 pa_nil hs3) hs2) hs1)) (pg_tup (n := 3) hc (pgs_cons (pg_name hN hi hx fx) (pgs_cons (pg_name hN hj hy fy) (pgs_cons (pg_name hN hl hz fz) pgs_nil)))) hs hw, ls_par3 l1 l2 l3⟩
end
end DL
namespace DL
theorem e_kput1 {α : Type} {a b : α} : kput 1 1 [0, 1] [a] [b] = [a, b] := rfl
theorem e_into4 {o : OD} {P : Sl → Prop} : R.into true P (.ow o) = P (.own none o) := rfl
theorem e_into5 {d : D} {P : Sl → Prop} : R.into false P (.sh d) = (false = false ∧ P (.sh d)) := rfl
end DL
namespace DL
open PySem L2 PyProof.Rows
theorem enums_map {α : Type} (f : α → D) (xs : List α) : enums (xs.map f) = xs.zipIdx.map fun q => .tup [.int (q.2 : Nat), f q.1] := by
  unfold enums
  refine List.ext_getElem? fun i => ?_
  rw [List.getElem?_zipWith, List.length_map, List.getElem?_map, List.getElem?_map, List.getElem?_zipIdx]
  cases h : xs[i]? with
  | none =>
    cases q : (List.range xs.length)[i]? <;> rfl
  | some x =>
    have hi : i < xs.length := (List.getElem?_eq_some_iff.mp h).1
    rw [List.getElem?_range hi]
    simp
theorem zipIdx_split {α : Type} {xs : List α} {pre post : List (α × Nat)} {q : α × Nat} (h : xs.zipIdx = pre ++ q :: post) : xs = pre.map (·.1) ++ q.1 :: post.map (·.1) ∧ q.2 = pre.length := by
  refine ⟨?_, ?_⟩
  · have := congrArg (List.map (·.1)) h
    rw [List.zipIdx_map_fst, List.map_append, List.map_cons] at this
    exact this
  · have e : xs.zipIdx[pre.length]? = some q := by rw [h, List.getElem?_append_right (Nat.le_refl _), Nat.sub_self]; rfl
    rw [List.getElem?_zipIdx] at e
    cases g : xs[pre.length]? with
    | none => rw [g] at e; cases e
    | some x =>
      rw [g] at e
      cases e
      simp
end DL
namespace DL
open PySem L2 PyProof.Rows
/-! ### an owned thing lent to an expression -/
def flatO : OD → Bool
  | .lst xs => xs.all flatD
  | .dk kvs => kvs.all fun kv => flatD kv.2
  | .obj _ fs => fs.all fun kv => flatD kv.2
def lentR (hi : Bool) : R → Bool
  | .sh d => flatD d || (hi && lowD d)
  | .ow (.lst xs) => xs.all flatD || (hi && lowL xs)
  | .ow o => flatO o
  | .al _ _ => false
section
variable {X : Cx} {b : Bg} {K : PySem.W.Frag}
theorem repL_flat {G G' : Hp} : ∀ {xs : List D} {vs : List V}, xs.all flatD = true → RepL K G xs vs → RepL K G' xs vs
  | [], _, _, h => h
  | x :: xs, _, l, ⟨v, r, h1, h2, h3⟩ => by
    rw [List.all_cons, Bool.and_eq_true] at l
    exact ⟨v, r, h1, flat_any l.1 h2, repL_flat l.2 h3⟩
theorem repK_flat {G G' : Hp} : ∀ {xs : List (Key × D)} {vs : List (Key × V)}, (xs.all fun kv => flatD kv.2) = true → RepK K G xs vs → RepK K G' xs vs
  | [], _, _, h => h
  | (k, x) :: xs, _, l, ⟨v, r, h1, h2, h3⟩ => by
    rw [List.all_cons, Bool.and_eq_true] at l
    exact ⟨v, r, h1, flat_any l.1 h2, repK_flat l.2 h3⟩
theorem repF_flat {G G' : Hp} : ∀ {xs : List (Str × D)} {vs : List (Str × V)}, (xs.all fun kv => flatD kv.2) = true → RepF K G xs vs → RepF K G' xs vs
  | [], _, _, h => h
  | (k, x) :: xs, _, l, ⟨v, r, h1, h2, h3⟩ => by
    rw [List.all_cons, Bool.and_eq_true] at l
    exact ⟨v, r, h1, flat_any l.1 h2, repF_flat l.2 h3⟩
theorem Good.lend {L : Lk} {G0 H0 G H : Hp} {σ : L2.St} {e : List Sl} (g : Good K b L G0 H0 G H σ e) {i : Nat} {q : Option Addr} {o : OD} {a : Addr} {ho : HO} (hi : e[i]? = some (.own q o)) (h1 : σ[i]? = some (some (.ref a))) (h2 : b.a ≠ some a) (h3 : H0 a = none) (h4 : G a = none) (h5 : H a = some ho) (h6 : RepO K G o ho) : Good K b L G0 H0 (L2.upd G a ho) H σ (e.set i (.sh o.d)) := by
  have sub := sub_upd (o := ho) h4
  refine ⟨⟨⟨g.stp.g.trans sub, g.stp.fr, fun c hc hu hg => ?_, fun c u hu => ?_, fun c hc h => ?_⟩, fun j x hx => ?_, fun j k t1 t2 o1 o2 c q1 q2 q3 q4 => ?_, fun c hc => ?_, g.lk, by rw [List.length_set]; exact g.len⟩, g.xl⟩
  · rw [upd_ne (fun z => hu (by rw [z]; exact h3))]
    exact g.stp.new c hc hu hg
  · by_cases z : c = a
    · subst z; rw [upd_same] at hu; cases hu; exact .inl h5
    · rw [upd_ne z] at hu; exact (g.ex c u hu).mono sub
  · obtain ⟨z1, s, ns, i, n, z, z2, z3, z4⟩ := g.stp.bag c hc h
    exact ⟨by rw [upd_ne (fun z => h2 (by rw [← z]; exact hc))]; exact z1, s, ns, i, n, z, z2, sub _ _ z3, z4⟩
  · rw [get_set] at hx
    by_cases c : i = j
    · rw [if_pos c] at hx
      split at hx
      · cases hx
        subst c
        exact ⟨_, h1, h6.rep h4⟩
      · cases hx
    · rw [if_neg c] at hx
      have q := g.slot j x hx
      cases x with
      | un => trivial
      | sh d => obtain ⟨v, z1, z2⟩ := q; exact ⟨v, z1, z2.mono sub⟩
      | own t2 o2 =>
        obtain ⟨a2, ho2, z1, z2, z3, z4, z5, z6, z7⟩ := q
        have ne : a2 ≠ a := fun z => by
          subst z
          exact c (g.inj i j _ _ _ o2 a2 hi hx h1 z1)
        exact ⟨a2, ho2, z1, z2, z3, by rw [upd_ne ne]; exact z4, z5, z6.mono sub, z7⟩
      | bag => exact q
  · rw [get_set] at q1 q2
    by_cases c1 : i = j
    · rw [if_pos c1] at q1; split at q1 <;> cases q1
    · by_cases c2 : i = k
      · rw [if_pos c2] at q2; split at q2 <;> cases q2
      · rw [if_neg c1] at q1
        rw [if_neg c2] at q2
        exact g.inj j k t1 t2 o1 o2 c q1 q2 q3 q4
  · obtain ⟨z1, s, ns, i, n, z, z2, z3, z4⟩ := g.bag c hc
    exact ⟨by rw [upd_ne (fun z => h2 (by rw [← z]; exact hc))]; exact z1, s, ns, i, n, z, z2, sub _ _ z3, z4⟩
theorem after_del0 {K : PySem.W.Frag} {G G1 H1 G' H' : Hp} {a : Addr} {hO : HO} {o : OD} (hr : RepO K G o hO) (ga : G1 a = none) (s : Stp none [] (L2.upd G1 a hO) H1 G' H') : Stp none [] G1 H1 (del G' a) H' := by
  refine ⟨fun c u h => ?_, fun c u hc nm h => .inl (s.fr0 hc h (nm_updO hr nm)), fun c hc h hg => ?_, fun c u h => ?_, fun c hc h => (by cases hc)⟩
  · have hc : c ≠ a := fun z => by rw [z, ga] at h; cases h
    rw [del_ne hc]
    exact s.g c u (by rw [upd_ne hc]; exact h)
  · by_cases z : c = a
    · subst z; exact del_same
    · rw [del_ne z]
      exact s.new c hc h (by rw [upd_ne z]; exact hg)
  · have z : c ≠ a := fun z => by rw [z, del_same] at h; cases h
    rw [del_ne z] at h
    exact Ex1.del hr (s.g _ _ upd_same) (s.ex c u h)
/-- slot i's thing is lent to e; what e answers holds no part of it -/
def uLend (hi : Bool) (i : Nat) (u : DE) : DE := fun e P => ∃ q o, nth e i = .own q o ∧ (hi = true → hiO o = true) ∧ u (e.set i (.sh o.d)) fun r => lentR hi r = true ∧ P r
theorem lent_rep {G1 H G' H' : Hp} {σ : L2.St} {e : List Sl} {a : Addr} {hO : HO} {o : OD} {hi : Bool} (hh : hi = true → hiO o = true) (ha : H a = some hO) (ga : G' a = some hO) (hr : RepO K G' o hO) {r : R} {v : V} {e' : List Sl} (l : lentR hi r = true) (h : RepR K b H σ e' G' H' r v) : RepR K b H σ e (del G' a) H' r v := by
  have lw : ∀ xs : List D, ∀ vs : List V, (xs.all flatD || (hi && lowL xs)) = true → RepL K G' xs vs → RepL K (del G' a) xs vs := fun xs vs l h => by
    cases c : xs.all flatD with
    | true => exact repL_flat c h
    | false =>
      rw [c, Bool.false_or, Bool.and_eq_true] at l
      exact repL_del ga (hh l.1) hr l.2 h
  cases r with
  | al i o => cases l
  | sh d =>
    have l' : (flatD d || (hi && lowD d)) = true := l
    cases c : flatD d with
    | true => exact flat_any c h
    | false =>
      rw [c, Bool.false_or, Bool.and_eq_true] at l'
      exact rep_del ga (hh l'.1) hr l'.2 h
  | ow o' =>
    obtain ⟨a', ho, h1, h2, h3, h4, h5, h6⟩ := h
    have ne : a' ≠ a := fun z => by rw [z, ha] at h3; cases h3
    refine ⟨a', ho, h1, h2, h3, by rw [del_ne ne]; exact h4, h5, ?_⟩
    cases o' with
    | lst xs => obtain ⟨vs, z1, z2⟩ := h6; exact ⟨vs, z1, lw xs vs l z2⟩
    | dk kvs => obtain ⟨vs, z1, z2⟩ := h6; exact ⟨vs, z1, repK_flat l z2⟩
    | obj C fs => obtain ⟨dx, vs, z1, z2⟩ := h6; exact ⟨dx, vs, z1, repF_flat l z2⟩
theorem le_lend0 {t : TE} (i : Nat) {u : DE} (hi : Bool) (l : LE K (bN none) t u) : LE K (bN none) t (uLend hi i u) := by
  intro L G0 H0 G H σ e P Q g hu k
  obtain ⟨q, o, ho, hh, hu⟩ := hu
  have hs := nth_get ho (by simp)
  obtain ⟨a, hO, h1, h2, h3, h4, h5, h6, _⟩ := g.slot i _ hs
  have g1 := g.lend hs h1 h2 h3 h4 h5 h6
  refine l L G0 H0 _ H σ _ _ _ g1 hu fun v r G' H' s hr ⟨lr, hp⟩ => ?_
  exact k v r (del G' a) H' (after_del0 h6 h4 s) (lent_rep (hO := hO) (o := o) (G1 := G) hh h5 (s.g _ _ upd_same) ((h6.mono (sub_upd h4)).mono s.g) lr hr) hp
theorem le_lend {t : TE} (i : Nat) {u : DE} (l : LE K b t u) : LE K b t (uLend true i u) := by
  intro L G0 H0 G H σ e P Q g hu k
  obtain ⟨q, o, ho, hh, hu⟩ := hu
  have hs := nth_get ho (by simp)
  obtain ⟨a, hO, h1, h2, h3, h4, h5, h6, _⟩ := g.slot i _ hs
  have g1 := g.lend hs h1 h2 h3 h4 h5 h6
  refine l L G0 H0 _ H σ _ _ _ g1 hu fun v r G' H' s hr ⟨lr, hp⟩ => ?_
  exact k v r (del G' a) H' (after_del (hh rfl) h6 h4 h2 h5 s) (lent_rep (hO := hO) (o := o) (G1 := G) hh h5 (s.g _ _ upd_same) ((h6.mono (sub_upd h4)).mono s.g) lr hr) hp
theorem d_lend0 {a : Expr} {i : Nat} {u : DE} (hi : Bool) (h : PD X (bN none) a u) : PD X (bN none) a (uLend hi i u) := by
  obtain ⟨t, p, l⟩ := h
  exact ⟨t, p, le_lend0 i hi l⟩
theorem d_lend {a : Expr} {i : Nat} {u : DE} (h : PD X b a u) : PD X b a (uLend true i u) := by
  obtain ⟨t, p, l⟩ := h
  exact ⟨t, p, le_lend i l⟩
/-- x = [..] where something is lent -/
theorem ds_setLcW {i : Nat} {y : Str} {py : Pos} {elt tg iter : Expr} {ifs : List Expr} {scope : Scope} {own : List (Str × Nat)} {pos spos : Pos} {ui : DI} {js : List Nat} {ug : DG} {ut : DT} {ue : DE} {u' : DE} (hw : ∀ t, LE X.K b t (uLc ui ug ut ue (own.map (·.2))) → LE X.K b t u') (hN : X.N.Nodup) (ok : blkC X.N X.env.scope scope own = true) (hj : ∀ j ∈ js, j ∈ own.map (·.2)) (hi : PDI X b tg iter ui)
    (hg : Blk X scope fun Y => PDG Y b tg js ug) (ht : Blk X scope fun Y => PDTs Y b ifs ut) (he : Blk X scope fun Y => PD Y b elt ue)
    (hsw : swapsWith (.ListComp elt [⟨tg, iter, ifs, 0⟩] scope pos) (some (.Name y py)) spos.line X.env = pure true) (hy : X.N[i]? = some y := by rfl) (hyl : X.env.scope.names.lookup y = some .local := by rfl) (hc : X.calm = true := by rfl) (hs : ∀ x, foldedSetIterable iter X.env x = pure x := by intro _; rfl) :
    PDS X b (.Assign [.Name y py] (.ListComp elt [⟨tg, iter, ifs, 0⟩] scope pos) spos) (uSet i (uX u')) := by
  obtain ⟨wi, p1, l1⟩ := hi
  obtain ⟨g, p2, l2⟩ := blk_g hg
  obtain ⟨tt, p3, l3⟩ := blk_t ht
  obtain ⟨te, p4, l4⟩ := blk_e he
  refine ⟨_, ps_setLc hc hN hy hyl hsw p1 (blkOk_by ok) p2 p3 p4 hs, ?_⟩
  intro L G0 H0 G H σ e DD D g ok hu
  refine lx_of (hw _ (le_lc l1 l2 l3 l4 hj)) L G0 H0 G H σ e _ _ g hu fun v r e' G' H' g' hr q => ?_
  obtain ⟨d, G2, g2, hd, q⟩ := hr.freeze g' q
  exact ok.nx _ _ _ _ (g2.setS i hd) q
end
end DL
namespace DL
open PySem L2 PyProof.Rows
/-! ### sorted(d), numbers, any number of them -/
theorem call_sortBig {X : Cx} (calm : X.calm = true) : CallR X (.builtin "sorted") (fun xs H Q => ∃ (a : Addr) (kvs : List (Key × V)) (ns : List Int), xs = [.ref a] ∧ Rd H a (.dK kvs) ∧ kvs.map (·.1) = ns.map Sum.inl ∧ ns.length ≤ 1000000 ∧
    ∀ (zs : List Int) (p : Addr), zs.Perm ns → zs.Pairwise (· ≤ ·) → H p = none → Q (.ref p) (upd H p (.lst (zs.map V.int)))) := by
  intro pins s σ H xs us Q I rx ⟨a, kvs, ns, hxs, hd, hk, hn, kk⟩
  subst hxs
  obtain ⟨x, rfl, ra⟩ := vals1 rx
  cases ra
  obtain ⟨_, lay, ps, hrel, hdict⟩ := dk_rd I.hok hd
  obtain ⟨epoch, at_⟩ := hdict.dictAt
  have keys := hrel.keys.symm.trans hk
  have len : ps.length = ns.length := by simpa using congrArg List.length keys
  have fits : ns.length ≤ sizeLine := by rw [sizeLine_eq]; omega
  refine Calls.call_function_entry kind_sorted plain_sorted entry_sorted (args_sorted1 _) (wpAny_bind (m := checkCount "sorted" 1 1 _) (wpAny_pure (wpAny_bind ?_)))
  refine PySem.W.kdu_collect (A := X.A.in1) (PySem.W.kdl_dict (knd := mixKind X.prog X.w) (kvs := ps) (ep := epoch) lay) (I.ok.hd calm) at_ (len ▸ fits) fun g tk out hg ho => ?_
  have olen : out.toList.length = ns.length := by rw [Array.length_toList, ho.1, len]
  have hi : IntsAre out.toList ns := ints_each olen fun j v e => by
    obtain ⟨k, w, h1, h2⟩ := ho.2 j v (by simpa using e)
    have h3 : (ps.map (·.1))[j]? = some k := by simp [h1]
    rw [keys, List.getElem?_map] at h3
    obtain ⟨y, hy, rfl⟩ := Option.map_eq_some_iff.mp h3
    obtain ⟨i, t, e1, e2⟩ | ⟨z, t, e1, e2⟩ := keyIs_shape (show keyIs (Sum.inl y) v = true from h2)
    · cases e1; exact ⟨y, t, hy, e2⟩
    · cases e1
  have I1 : Inv X pins σ H { s with heap := g, toks := tk } := I.kept hg
  refine wpAny_bind (wpAny_newList ?_ (by rw [olen]; exact fits))
  have hL := Heap.get?_push_size g (o := seqObj "list" out.toList.toArray 0) rfl
  refine wpAny_bind (wpAny_holding (wpAny_call_entry slot_list_sort ⟨_, hL, rfl⟩ entry_list_sort (SrtO.list_sort_ord (s := { s with heap := g.push (seqObj "list" out.toList.toArray 0), toks := tk }) SrtO.swo_int hL (by rw [olen]; exact fits) (fun h => SrtO.ints_sortable hi h) fun zs h1 h2 => ⟨_, rfl, ?_⟩) (args_list_sort _)))
  obtain ⟨k1, k2, k3⟩ := SrtO.ints_out hi h1 h2
  obtain ⟨ep, hz⟩ := sortedHeap_at (vs := out.toList) (out := zs.toArray) hL
  have zl : ((zs.map SrtO.iv).map V.int).length ≤ sizeLine := by rw [List.length_map, k2.length_eq]; exact fits
  refine wpAny_pure ⟨_, rfl, .ref g.objs.size, upd H g.objs.size (.lst ((zs.map SrtO.iv).map V.int)), I1.laid (t' := tk) (fun c u e => ?_) (Nat.le_refl _) (show ObjOk X.prog X.w _ _ _ (.lst ((zs.map SrtO.iv).map V.int)) from ⟨zl, zs, ep, vals_of_ints k1, hz⟩), rfl, kk _ _ k2 k3 (I1.hok.fresh (Nat.le_refl _))⟩
  have lt : c < g.objs.size := Heap.lt_size e
  rw [sortedHeap_old (Nat.ne_of_lt lt) (by rw [size_push']; exact Nat.lt_succ_of_lt lt)]
  exact Heap.get?_push_of_some _ e
section
variable {X : Cx} {b : Bg} {K : PySem.W.Frag}
def rSrtU (K : PySem.W.Frag) : List V → Hp → VK → Prop := fun xs H Q => rSrt K xs H Q ∨ (fun xs H Q => ∃ (a : Addr) (kvs : List (Key × V)) (ns : List Int), xs = [.ref a] ∧ Rd H a (.dK kvs) ∧ kvs.map (·.1) = ns.map Sum.inl ∧ ns.length ≤ 1000000 ∧
    ∀ (zs : List Int) (p : Addr), zs.Perm ns → zs.Pairwise (· ≤ ·) → H p = none → Q (.ref p) (upd H p (.lst (zs.map V.int)))) xs H Q
/-- sorted(..), a dict with any number of numbers for keys among them -/
def fSortedU (d : D) (P : R → Prop) : Prop := fSorted d P ∨ ∃ kvs ns, d = .dk kvs ∧ kvs.map (·.1) = ns.map Sum.inl ∧ ns.length ≤ 1000000 ∧ ordI ns P
theorem lc_sortedU : LC K (rSrtU K) fSortedU := by
  intro b L G0 H0 G H σ e d x P Q g h hf k
  rcases hf with hf | ⟨kvs, ns, rfl, e1, hn, q⟩
  · exact .inl (lc_sorted b L G0 H0 G H σ e d x P Q g h hf k)
  · obtain ⟨a, vs, rfl, ha, hr⟩ := h
    exact .inr ⟨a, vs, ns, rfl, ha, (repK_keys hr).trans e1, hn, fun ys p pm so np => g.newL (repL_ints' ys) (q ys pm so) k p np⟩
theorem d_sortedU {a : Expr} {u : DE} {p pos : Pos} (hm : X.mg "sorted" = none) (h1 : PD X b a u) (hc : X.calm = true := by rfl) (hg : Gl X "sorted" := by rfl) (hs : starEach (a :: []) X.env = (false, eval a X.env) :: starEach [] X.env := by rfl) (hpl : (backTo pos (starEach [] X.env)).any (·.1) = false := by rfl) :
    PD X b (.Call (.Name "sorted" p) [a] [] pos) (uB fSortedU u) := d_b1 (callR_or (cr_srt hc) (call_sortBig hc)) lc_sortedU hm (by decide +kernel) h1 hg (hs := hs) (hpl := hpl)
/-! ### a call by keywords alone -/
theorem pe_callK0 {CX : CXT} {k : Nat} {f : Addr} {fd : FuncData} {ps ks : List Str} {sp : Sp} {E : XK} {x : Str} {p pos : Pos} {kws : List Keyword} {tk : TA} {g : List Value → List Value → List Value} {gV : List V → List V → List V} (F : FnOk X.prog X.w X.K X.mg X.base CX k f fd ps sp) (hr : Room k X.A) (hg : Gl X x) (hm : X.mg x = some (.ref f)) (hk : PySem.W.keepIn X.K (.ref f) = true) (hb : KBinds X.K fd ps ks g gV) (hx : Passes CX X E)
    (hkw : PK X kws tk) (all : (backToKw pos (keywordEach kws X.env)).all (·.1.isSome) = true) (names : (backToKw pos (keywordEach kws X.env)).filterMap (·.1) = ks) (hdb : (x == ("__debug__" : Str)) = false)
    (pl : ((backTo pos (starEach [] X.env)).any (·.1) || (backToKw pos (keywordEach kws X.env)).any (·.1.isNone)) = false) : PE X (.Call (.Name x p) [] kws pos) (tCallK sp gV E tNil tk) := by
  constructor
  intro pins s σ H Q I h
  refine wpAny_Call_Name_kw (ld_glob I hg hm (PySem.W.callWith_KW0 (h₀ := X.base) I.ok.mod.kin hk all ?_ pl) hdb)
  refine thn (hkw.run pos pins s σ H _ I h) fun ws s2 ⟨zs, H2, I2, rz, q2⟩ => ⟨I2.kIn, ?_⟩
  rw [names]
  exact run_fnk (us := []) (vs := []) F hr hb hx I2 .nil rz q2
theorem d_callK0 {x : Str} {k : Nat} {ks : List Str} {π : List Nat} {ps : List Str} {pats : List (Nat × List Str × List Nat)} {f : FS} {kws : List Keyword} {uk : DA} {p pos : Pos} (F : KnownK X.prog X.w X.K X.mg X.base x k ps pats (spN X.K f)) (hr : Room k X.A) (hp : (0, ks, π) ∈ pats) (hkw : PDK X b kws uk) (hg : Gl X x := by rfl)
    (hall : (backToKw pos (keywordEach kws X.env)).all (·.1.isSome) = true := by rfl) (hks : (backToKw pos (keywordEach kws X.env)).filterMap (·.1) = ks := by rfl)
    (hdb : (x == ("__debug__" : Str)) = false := by decide) (hpl : ((backTo pos (starEach [] X.env)).any (·.1) || (backToKw pos (keywordEach kws X.env)).any (·.1.isNone)) = false := by rfl) : PD X b (.Call (.Name x p) [] kws pos) (uCallK f 0 ks.length π uNil uk) := by
  obtain ⟨fa, fd, F, hm, hk, hb⟩ := F
  obtain ⟨tk, pk, lk⟩ := hkw
  refine ⟨_, pe_callK0 F hr hg hm hk (hb _ hp) pass0 pk hall hks hdb hpl, ?_⟩
  intro L G0 H0 G H σ e P Q g hu k
  refine lk L G0 H0 G H σ e _ _ g hu fun ws zs G2 H2 s2 hzs q => ?_
  have g2 := g.step s2
  show spN X.K f _ H2 Q E0
  refine ⟨G2, _, P, g2.ex, repL_kput (xs := []) (vs := []) rfl hzs, q, fun v r G' H' s hr hp => ?_⟩
  have s' : Stp b [] G2 H2 G' H' := s.some
  refine k v r G' H' (s2.trans s') ?_ hp
  cases r with
  | sh d => exact hr
  | ow o =>
    obtain ⟨a, ho, h1, _, h3, h4⟩ := hr
    exact ⟨a, ho, h1, g2.nb h3, s2.back a (g2.nb h3) h3, h4⟩
  | al i o => obtain ⟨⟨_, h⟩, _⟩ := hr; simp at h
theorem e_kput2 {α : Type} {a b : α} : kput 0 2 [1, 0] [] [a, b] = [b, a] := rfl
end
end DL
namespace DL
open PySem L2 PyProof.Rows
/-! ### enumerate(tuple) -/
set_option maxHeartbeats 4000000 in
theorem enum_new1 {v : Value} {o : Obj} {B0 : Heap → Prop} (B : Begins v o B0) :
    Meets (Builtin.«enumerate.__new__» ⟨[.type "enumerate", v], []⟩) (fun _ R s => B0 s.heap ∧
      R (.ok (.ret (.ref (s.heap.push o).objs.size))) { s with heap := (s.heap.push o).push { cls := .type "enumerate", data := .fields #[.none, .bool false, .ref s.heap.objs.size, rawInt 0, .none, .none] } }) :=
  .of_wp fun prog w A R s ⟨hb, hr⟩ => by
    obtain ⟨hp, gl, ds, tk, os⟩ := s
    have sub := sub_enumerate
    have it : ∀ {A2 : Around} {E2 Q2 : Value → Shared → Prop}, Q2 (.ref hp.objs.size) ⟨hp.push o, gl, ds, tk, os⟩ → wpAny (model prog w) A2 (pyIter v) Q2 E2 ⟨hp, gl, ds, tk, os⟩ := fun q => B.iter _ _ _ _ ⟨hp, gl, ds, tk, os⟩ _ hb q
    wp_walk using it
    refine wpAny_stack_any fun _ => wpAny_pure ?_
    split
    · rename_i cc _ _ _ _ _
      cases (cc == Value.type "enumerate") <;> (wp_walk using it; exact ⟨_, rfl, hr⟩)
    · wp_walk using it; exact ⟨_, rfl, hr⟩
theorem enum_tuple {prog : Program} {w : World} {A : Around} {E : Value → Shared → Prop} {s : Shared} {t : Addr} {items : Array Value} {Q : Value → Shared → Prop} (ht : s.heap.IsTuple t items)
    (h : ∀ h', IsEnum h' (s.heap.objs.size + 1) s.heap.objs.size 0 .none → h'.IsTupleIter s.heap.objs.size t 0 → (∀ c u, s.heap.get? c = some u → h'.get? c = some u) → Q (.ref (s.heap.objs.size + 1)) { s with heap := h' }) : wpAny (model prog w) A (call (.type "enumerate") [.ref t]) Q E s := by
  have B := begins_tuple t items
  have sz : (s.heap.push { cls := .type "tuple_iterator", data := .fields #[.ref t, .int 0 0] }).objs.size = s.heap.objs.size + 1 := Heap.size_push ..
  refine callType_new F.called_enumerate (by decide) (F.typeCall_enumerate_1 _) (F.newCall_enumerate_1 _) (fun obj => F.args_object_init_2 obj _) F.entry_enumerate_new (enum_new1 B) ⟨ht, ?_⟩
  show _ ∧ _
  rw [sz]
  have en : IsEnum ((s.heap.push { cls := .type "tuple_iterator", data := .fields #[.ref t, .int 0 0] }).push { cls := .type "enumerate", data := .fields #[.none, .bool false, .ref s.heap.objs.size, rawInt 0, .none, .none] }) (s.heap.objs.size + 1) s.heap.objs.size 0 .none := by
    rw [← sz]
    exact Heap.get?_push_size _ rfl
  exact ⟨⟨_, en, rfl⟩, h _ en ⟨_, Heap.get?_push_of_some _ (Heap.get?_push_size _ B.free), rfl, rfl⟩ fun c u x => Heap.get?_push_of_some _ (Heap.get?_push_of_some _ x)⟩
theorem enum_tup_end {prog : Program} {w : World} {A : Around} {E : Value → Shared → Prop} {s : Shared} {e it t : Addr} {i : Nat} {k : Int} {items : Array Value} {old : Value} {Q : Option Value → Shared → Prop} (hh : A.handled = none) (he : IsEnum s.heap e it k old) (hit : s.heap.IsTupleIter it t i) (ht : s.heap.IsTuple t items) (hx : items[i]? = none) (q : ∀ h1, Heap.ExtBut it s.heap h1 → Q none { s with heap := h1 }) : wpAny (model prog w) A (pyNext (.ref e)) Q E s := by
  have ty : s.TypeIs (.ref e) "enumerate" := ⟨_, he, rfl⟩
  unfold pyNext
  refine wpAny_bind (wpAny_attempt (wpAny_callSpecial?_slot (name := Str.ofString "__next__") ty F.slot_enumerate_next (wpAny_call_entry F.slot_enumerate_next ty F.entry_enumerate_next ?_ (F.args_enumerate_next_1 _))))
  show wpAny _ _ (field (.ref e) 2 >>= _) _ _ _
  refine wpAny_bind (wpAny_field he rfl (x := .ref it) rfl (wpAny_bind (wpAny_nextOf_tuple_end hh hit ht hx fun h1 x eb ⟨o, ho, hc⟩ => ?_)))
  exact wpAny_bind (wpAny_isInstance (T := "StopIteration") (b := true) ⟨o, ho, hc⟩ isSubtype_stop (wpAny_pure (q _ eb)))
/-- the tuple at a, the items in new pairs with their numbers -/
def IteT (K : PySem.W.Frag) (a : Addr) : It :=
  ⟨fun i H => ∃ (xs : List V) (x : V), SqT K H a xs ∧ xs[i]? = some x, fun i H v H' => ∃ T x, v = .ref T ∧ H T = none ∧ H' = upd H T (.tup [.int (i : Nat), x]) ∧ ∀ xs, SqT K H a xs → xs[i]? = some x, fun i H => ∃ xs : List V, SqT K H a xs ∧ xs.length ≤ i⟩
theorem apart_tup {h : Heap} {e it a : Addr} {k : Int} {old : Value} {i : Nat} {items : Array Value} (he : IsEnum h e it k old) (hi : h.IsTupleIter it a i) (ht : h.IsTuple a items) : e ≠ a ∧ a ≠ it := by
  obtain ⟨o, h1, c1, _⟩ := ht
  obtain ⟨o2, h2, c2, _⟩ := hi
  refine ⟨fun z => ?_, fun z => ?_⟩
  · subst z
    have := he.symm.trans h1
    cases this
    injection c1 with q
    exact absurd q (by decide)
  · subst z
    have := h1.symm.trans h2
    cases this
    have c3 := c1.symm.trans c2
    injection c3 with q
    exact absurd q (by decide)
theorem turn_enumT {P : Program} {w : World} {K : PySem.W.Frag} {elts : List Expr} {kk : Nat} {tpos : Pos} (a e it : Addr) :
    Turn P w K (.Tuple elts kk tpos) (IteT K a) [e, it] e (fun i h => (∃ old, IsEnum h e it ((i : Nat) : Int) old) ∧ h.IsTupleIter it a i ∧ e ≠ it) where
  mem := List.mem_cons_self
  obj := fun i h ⟨⟨old, he⟩, ⟨o, ho, _, hd⟩, _⟩ c hc => by
    rcases List.mem_cons.mp hc with rfl | hc
    · exact ⟨_, he, fun v q => nomatch q⟩
    · rw [List.mem_singleton.mp hc]
      exact ⟨o, ho, fun v q => by rw [hd] at q; cases q⟩
  keep := fun i h h' ⟨⟨old, he⟩, hi, ne⟩ k => ⟨⟨old, k e List.mem_cons_self _ he⟩, hi.at fun o q => k it (by simp) o q, ne⟩
  item := by
    intro X hP hw hK hc i pins s σ H E I hf ⟨⟨old, he⟩, hit, ne⟩ ⟨xs, x, hq, hx⟩
    subst hP; subst hw; subst hK
    obtain ⟨its, rv, ht, _⟩ := I.tuple hq
    obtain ⟨u, hu, ru⟩ := rv.get hx
    obtain ⟨ne1, ne2⟩ := apart_tup he hit ht
    have le : e < s.heap.objs.size := Heap.lt_size he
    have li : it < s.heap.objs.size := by obtain ⟨_, q, _⟩ := hit; exact Heap.lt_size q
    have hi : i < its.toArray.size := by simpa using (List.getElem?_eq_some_iff.mp hu).1
    refine wpAny_pyNext_enum_itemC (Draws.tuple (A := X.A.in1) (show X.A.in1.handled = none from I.ok.hd hc) it a ne2 its.toArray) he ⟨hit, ht⟩ hi ne (by simp [ne, ne1]) fun y h1 tk hy out st hT hsz hk => ?_
    have hyu : y = u := by
      have hy : its.toArray[i]? = some y := hy
      rw [List.getElem?_toArray, hu] at hy
      exact (Option.some.inj hy).symm
    subst hyu
    refine ⟨_, rfl, wpAny_letOwnedTupleGo_enum (s := { s with heap := h1, toks := tk + 1 }) out fun h2 he2 sb => ?_⟩
    have hT2 : h2.get? s.heap.objs.size = some { cls := .type "tuple", data := .seq #[.int i tk, y] } := (sb.2 _ (Nat.ne_of_gt le)).trans hT
    have new : ObjOk X.prog X.w (upd H s.heap.objs.size (.tup [.int (i : Nat), x])) h2 s.heap.objs.size (.tup [.int (i : Nat), x]) :=
      ⟨by show 2 ≤ sizeLine; rw [sizeLine_eq]; decide, [.int i tk, y], .cons ⟨_, rfl⟩ (.cons ru .nil), ⟨_, hT2, rfl, _, rfl⟩⟩
    have I1 : Inv X pins σ (upd H s.heap.objs.size (.tup [.int (i : Nat), x])) { s with heap := h2, toks := tk + 1 } :=
      I.turnedNew (ch := [e, it]) (fun c ob hc q => (sb.2 c (fun z => hc (by simp [z]))).trans (hk c ob (fun z => hc (by simp [z])) (fun z => hc (by simp [z])) q)) hf (Nat.le_refl _) new
    refine ⟨.ref s.heap.objs.size, _, I1, rfl, ⟨_, x, rfl, I.hok.fresh (Nat.le_refl _), rfl, fun ys hy => ?_⟩, ⟨⟨y, ?_⟩, st.1.at fun o q => (sb.2 it (Ne.symm ne)).trans q, ne⟩, fun c hc => ?_⟩
    · rw [I.tuple_inj hy hq]; exact hx
    · rw [show ((i + 1 : Nat) : Int) = (i : Int) + 1 by omega]
      exact he2
    · have lc : c < s.heap.objs.size := by
        rcases List.mem_cons.mp hc with rfl | hc
        · exact le
        · rw [List.mem_singleton.mp hc]; exact li
      rw [upd_ne (Nat.ne_of_lt lc)]
      exact (hf c hc).1
  done := by
    intro X hP hw hK hc i pins s σ H E I hf ⟨⟨old, he⟩, hit, ne⟩ ⟨xs, hq, hx⟩
    subst hP; subst hw; subst hK
    obtain ⟨its, rv, ht, _⟩ := I.tuple hq
    obtain ⟨f0, f1, f2, f3, f4, f5⟩ := hf it (by simp)
    have hl := rv.length
    exact enum_tup_end (I.ok.hd hc) he hit ht (by simp; omega) fun h1 eb => ⟨rfl, I.turned (t' := s.toks) (fun c ob hc q => eb c ob hc q) f0 f1 f3 f4 f5⟩
  self := fun A i s Q E ⟨⟨_, he⟩, _⟩ h => wpAny_pyIter_enum he h
section
variable {X : Cx} {b : Bg} {K : PySem.W.Frag}
def iEnumT (K : PySem.W.Frag) (ta : TA) : TI := fun σ H R => ta σ H fun vs H1 => ∃ a xs, vs = [.ref a] ∧ ((SqL K H1 a xs ∧ R (Ite K a) H1) ∨ (SqT K H1 a xs ∧ R (IteT K a) H1))
theorem pi_enumQ {e : Expr} {ta : TA} {p pos tpos : Pos} {elts : List Expr} {kk : Nat} (hg : Gl X "enumerate") (hm : X.mg "enumerate" = none) (ha : PA X [e] ta) (hs : starEach [e] X.env = [(false, eval e X.env)]) :
    PI X (.Tuple elts kk tpos) (.Call (.Name "enumerate" p) [e] [] pos) (iEnumT X.K ta) := by
  constructor
  intro pins s σ H R I h
  refine Call_ (ld_blt I hg hm boot_enumerate (callWith_type1 (thn (ha.run pos pins s σ H _ I h) fun us s1 ⟨vs, H1, I1, r1, a, xs, ex, hq⟩ => ?_) hs rfl))
  subst ex
  obtain ⟨u, rfl, ru⟩ := vals1 r1
  cases ru
  have two : ∀ c : Addr, c ∈ [s1.heap.objs.size + 1, s1.heap.objs.size] → s1.heap.objs.size ≤ c := fun c hc => by
    rcases List.mem_cons.mp hc with rfl | hc
    · exact Nat.le_succ _
    · rw [List.mem_singleton.mp hc]; exact Nat.le_refl _
  rcases hq with ⟨hq, q⟩ | ⟨hq, q⟩
  · obtain ⟨its, rv, pl, _⟩ := I1.list hq
    refine call_enumerate_list pl.isList fun h1 he hit hsz hk => wpAny_pyIter_enum he ?_
    exact ⟨s1.heap.objs.size + 1, [s1.heap.objs.size + 1, s1.heap.objs.size], _, _, H1, rfl, I1.kept (t' := s1.toks) hk, turn_enum a (s1.heap.objs.size + 1) s1.heap.objs.size, ⟨⟨.none, he⟩, hit, Nat.succ_ne_self _⟩, fun c hc => I1.fpOk (two c hc) (I1.hok.fresh (two c hc)), q⟩
  · obtain ⟨its, rv, ht, _⟩ := I1.tuple hq
    refine enum_tuple ht fun h1 he hit hk => wpAny_pyIter_enum he ?_
    exact ⟨s1.heap.objs.size + 1, [s1.heap.objs.size + 1, s1.heap.objs.size], _, _, H1, rfl, I1.kept (t' := s1.toks) hk, turn_enumT a (s1.heap.objs.size + 1) s1.heap.objs.size, ⟨⟨.none, he⟩, hit, Nat.succ_ne_self _⟩, fun c hc => I1.fpOk (two c hc) (I1.hok.fresh (two c hc)), q⟩
/-- enumerate(xs), a list or a tuple -/
def asLT (P : List D → Prop) : D → Prop
  | .lst xs => P xs
  | .tup xs => P xs
  | _ => False
def uEnumQ (u : DE) : DI := fun e P => u e (R.keep (asLT fun xs => P (enums xs)))
theorem jok_enumT {L : Lk} {G1 : Hp} {a : Addr} {vs : List V} {xs : List D} (h : ∀ G H, Sub G1 G → Ex G H → SqT K H a vs) (hr : RepL K G1 xs vs) : JOk K b L G1 (IteT K a) (enums xs) := fun G H sub ex _ i => by
  have q : SqT K H a vs := h G H sub ex
  refine ⟨fun y hy => ?_, fun hi => ⟨vs, q, by rw [hr.length]; rw [enums_len] at hi; exact hi⟩⟩
  obtain ⟨x, hx, rfl⟩ := enums_get hy
  obtain ⟨v, hv, hd⟩ := (hr.mono sub).get hx
  refine ⟨⟨vs, v, q, hv⟩, fun w H' ⟨T, z, e1, hT, e2, hz⟩ => ?_⟩
  subst e1; subst e2
  have e := hz vs q
  rw [hv] at e
  cases e
  have s := sub_upd (o := .tup [.int (i : Int), v]) (ex.none hT)
  exact ⟨_, Stp.laid ex hT, T, _, rfl, .inl upd_same, _, _, rfl, rfl, _, _, rfl, hd.mono s, rfl⟩
theorem di_enumQ {a : Expr} {u : DE} {p pos tpos : Pos} {elts : List Expr} {kk : Nat} (hm : X.mg "enumerate" = none) (h : PD X b a u) (hg : Gl X "enumerate" := by rfl) (hs : starEach [a] X.env = [(false, eval a X.env)] := by rfl) : PDI X b (.Tuple elts kk tpos) (.Call (.Name "enumerate" p) [a] [] pos) (uEnumQ u) := by
  obtain ⟨t, p, l⟩ := h
  refine ⟨_, pi_enumQ hg hm (pa_cons p pa_nil hs) hs, ?_⟩
  intro L G0 H0 G H σ e P Q g hu k
  refine l L G0 H0 G H σ e _ _ g hu fun v r G1 H1 s1 hr q => ?_
  obtain ⟨d, G2, s2, hd, q⟩ := hr.freeze s1 q
  cases d with
  | lst xs =>
    obtain ⟨a, vs, rfl, ha, hr⟩ := hd
    exact ⟨a, vs, rfl, .inl ⟨SqL.of (ex_lst s2.ex ha), k _ _ G2 H1 s2 (jok_enum ha hr) q⟩⟩
  | tup xs =>
    obtain ⟨a, vs, rfl, ha, hr⟩ := hd
    have sq : ∀ G H, Sub G2 G → Ex G H → SqT X.K H a vs := fun G H sub ex => by
      rcases ha with ha | ha
      · exact .inl (.inl (by
          rcases Ex.old ex a _ (sub _ _ ha) with z | ⟨kvs, od, z, _⟩
          · exact z
          · cases z))
      · exact .inr ha
    exact ⟨a, vs, rfl, .inr ⟨sq G2 H1 (Sub.refl _) s2.ex, k _ _ G2 H1 s2 (jok_enumT sq hr) q⟩⟩
  | _ => exact q.elim
theorem e_aslt1 {xs : List D} {P : List D → Prop} : asLT P (.lst xs) = P xs := rfl
theorem e_aslt2 {xs : List D} {P : List D → Prop} : asLT P (.tup xs) = P xs := rfl
end
end DL
namespace DL
open PySem L2 PyProof.Rows
section
variable {X : Cx} {b : Bg} {K : PySem.W.Frag}
/-! ### comprehensions with two walks -/
def uLc2 (ui : DI) (ug : DG) (ut : DT) (ui1 : DI) (ug1 : DG) (ut1 : DT) (ue : DE) (vs vs1 : List Nat) : DE := fun e P => ui e fun xs => ∃ W : Nat → List D → Prop, W 0 [] ∧
  (∀ (i : Nat) x acc, xs[i]? = some x → W i acc → ug x (wipeE e vs) fun e2 => ut e2 fun c => if c = true then ui1 e2 fun ys => ∃ W1 : Nat → List D → Prop, W1 0 acc ∧
    (∀ (j : Nat) y acc1, ys[j]? = some y → W1 j acc1 → ug1 y (wipeE e2 vs1) fun e3 => ut1 e3 fun c1 => if c1 = true then ue e3 (R.keep fun d => acc1.length < 1000000 ∧ W1 (j + 1) (acc1 ++ [d])) else W1 (j + 1) acc1) ∧ ∀ acc1, W1 ys.length acc1 → W (i + 1) acc1
    else W (i + 1) acc) ∧ ∀ acc, W xs.length acc → P (.ow (.lst acc))
theorem wipe_sub {σ : L2.St} {js vs : List Nat} (h : ∀ j ∈ js, j ∈ vs) : L2.wipe (L2.wipe σ js) vs = L2.wipe σ vs := by
  induction js generalizing σ with
  | nil => rfl
  | cons w ws ih =>
    show L2.wipe ((L2.wipe σ ws).set w none) vs = _
    rw [wipe_set (h w List.mem_cons_self)]
    exact ih fun j hj => h j (List.mem_cons_of_mem _ hj)
theorem BagOk.at {G H H' : Hp} {a : Addr} (h : BagOk G H a) (e : H' a = H a) : BagOk G H' a := by
  obtain ⟨h1, q, ns, i, n, z, h2, h3⟩ := h
  exact ⟨h1, q, ns, i, n, z, by rw [e]; exact h2, h3⟩
theorem XL.enter {L : Lk} {G0 H0 : Hp} {D : Addr} {o : HO} (x : XL K b L G0 H0) (h0 : H0 D = none) (nb : b.a ≠ some D) : XL K b L G0 (L2.upd H0 D o) := ⟨x.1, fun hL y cls d σ G' H' st => x.2 hL y cls d σ G' H' ⟨st.g, fun a u hb nm h => st.fr a u hb nm (by
    rw [upd_ne (fun z => by rw [z, h0] at h; cases h)]; exact h), fun a hb h hg => st.new a hb (by
    rw [upd_ne (fun z => by rw [z, h0] at h; exact h rfl)]; exact h) hg, st.ex, fun a ha h => st.bag a ha (h.at (upd_ne fun z => nb (by rw [ha, z])))⟩⟩
/-- a thing made since counts as there from the start -/
theorem Good.enter {L : Lk} {G0 H0 G1 H1 G H : Hp} {σ : L2.St} {e : List Sl} {D : Addr} {o : HO} (g1 : Good K b L G0 H0 G1 H1 σ e) (st : Stp b [] G1 H1 G H) (hD : H1 D = none) (hH : H D = some o) (hG : G D = none) : Good K b L G0 (L2.upd H0 D o) G H σ e := by
  have nb : b.a ≠ some D := g1.nb hD
  have g := g1.step st
  refine ⟨⟨⟨g.stp.g, fun a x hb nm h => ?_, fun a hb h hg => ?_, g.ex, fun a ha h => ?_⟩, fun i x hx => ?_, g.inj, g.bag, g.lk, g.len⟩, g1.xl.enter (g1.fresh nb hD).1 nb⟩
  · by_cases c : a = D
    · subst c; rw [upd_same] at h; cases h; exact .inl hH
    · rw [upd_ne c] at h; exact g.stp.fr a x hb nm h
  · by_cases c : a = D
    · subst c; exact hG
    · rw [upd_ne c] at h; exact g.stp.new a hb h hg
  · have c : a ≠ D := fun z => nb (by rw [ha, z])
    exact g.stp.bag a ha (h.at (upd_ne c).symm)
  · have q := g.slot i x hx
    cases x with
    | own t u =>
      obtain ⟨a, ho, z1, z2, z3, z4⟩ := q
      obtain ⟨a', ho', y1, y2, y3, y4, y5, y6⟩ := g1.slot i _ hx
      rw [z1] at y1
      cases y1
      have c : a ≠ D := fun z => by rw [z, hD] at y5; cases y5
      exact ⟨a, ho, z1, z2, by rw [upd_ne c]; exact z3, z4⟩
    | _ => exact q
/-- .. and changes -/
theorem Good.turn {L : Lk} {G0 H0 G H : Hp} {σ : L2.St} {e : List Sl} {D : Addr} {o o' : HO} (g : Good K b L G0 (L2.upd H0 D o) G H σ e) (x : XL K b L G0 H0) (h0 : H0 D = none) (nb : b.a ≠ some D) (hG : G D = none) (hH : H D = some o) (nf : ∀ od u, o ≠ .frz od u) : Good K b L G0 (L2.upd H0 D o') G (L2.upd H D o') σ e := by
  refine ⟨⟨⟨g.stp.g, fun a x hb nm h => ?_, fun a hb h hg => ?_, fun a u h => ?_, fun a ha h => ?_⟩, fun i x hx => ?_, g.inj, fun a ha => ?_, fun a od u m => ?_, g.len⟩, x.enter h0 nb⟩
  · by_cases c : a = D
    · subst c; rw [upd_same] at h ⊢; exact .inl h
    · rw [upd_ne c] at h ⊢
      exact g.stp.fr a x hb nm (by rw [upd_ne c]; exact h)
  · by_cases c : a = D
    · subst c; exact hG
    · rw [upd_ne c] at h
      exact g.stp.new a hb (by rw [upd_ne c]; exact h) hg
  · have c : a ≠ D := fun z => by rw [z, hG] at h; cases h
    rw [upd_ne c]
    exact g.ex a u h
  · have c : a ≠ D := fun z => nb (by rw [ha, z])
    exact (g.stp.bag a ha (h.at (by rw [upd_ne c, upd_ne c]))).at (upd_ne c)
  · have q := g.slot i x hx
    cases x with
    | own t u =>
      obtain ⟨a, ho, z1, z2, z3, z4, z5, z6⟩ := q
      have c : a ≠ D := fun z => by rw [z, upd_same] at z3; cases z3
      exact ⟨a, ho, z1, z2, by rw [upd_ne c] at z3 ⊢; exact z3, z4, by rw [upd_ne c]; exact z5, z6⟩
    | _ => exact q
  · have c : a ≠ D := fun z => nb (by rw [ha, z])
    exact (g.bag a ha).at (upd_ne c)
  · have q := g.lk a od u m
    have c : a ≠ D := fun z => by
      rw [z, hH] at q
      exact nf _ _ (Option.some.inj q)
    rw [upd_ne c]; exact q
theorem le_lc2 {wi wi1 : TI} {ui ui1 : DI} {g g1 : TG} {js js1 : List Nat} {ug ug1 : DG} {tt tt1 : TT} {ut ut1 : DT} {te : TE} {ue : DE} {vs vs1 : List Nat} (hi : LI K b wi ui) (hg : LG K b js g ug) (ht : LT K b tt ut) (hi1 : LI K b wi1 ui1) (hg1 : LG K b js1 g1 ug1) (ht1 : LT K b tt1 ut1) (he : LE K b te ue) (hj : ∀ j ∈ js, j ∈ vs) (hj1 : ∀ j ∈ js1, j ∈ vs1) : LE K b (tLc2 wi g tt wi1 g1 tt1 te vs vs1) (uLc2 ui ug ut ui1 ug1 ut1 ue vs vs1) := by
  intro L G0 H0 G H σ e P Q gd hu k
  refine hi L G0 H0 G H σ e _ _ gd hu fun J xs G1 H1 s1 hJ q => ?_
  obtain ⟨W, w0, hs, hd⟩ := q
  have gA := gd.step s1
  intro Dl hD
  have nb : b.a ≠ some Dl := gA.nb hD
  have hD0 : H0 Dl = none := (gA.fresh nb hD).1
  have s0 : Stp b [] G1 H1 G1 (L2.upd H1 Dl (.lst [])) := Stp.made gA.ex hD
  refine ⟨fun i m H => m = xs.length - i ∧ i ≤ xs.length ∧ ∃ G acc va, Stp b [] G1 H1 G H ∧ G Dl = none ∧ H Dl = some (.lst va) ∧ RepL K G acc va ∧ W i acc, ⟨xs.length, by simp, Nat.zero_le _, G1, [], [], s0, gA.ex.none hD, upd_same, rfl, w0⟩, ?_⟩
  rintro i m H ⟨rfl, hi0, G', acc, va, st, hgD, hHD, hra, w⟩
  have gg := (gA.wipe vs).enter st hD hHD hgD
  obtain ⟨j1, j2⟩ := hJ G' H st.g st.ex (gA.step st).lk i
  by_cases c : i < xs.length
  · obtain ⟨go, y⟩ := j1 xs[i] (by simp [c])
    refine .inr ⟨go, fun H' => ∃ G acc va, Stp b [] G1 H1 G H' ∧ G Dl = none ∧ H' Dl = some (.lst va) ∧ RepL K G acc va ∧ W (i + 1) acc, fun H' q => ⟨xs.length - (i + 1), by omega, rfl, by omega, q⟩, fun v H2 hy => ?_⟩
    obtain ⟨G2, s2, hx⟩ := y v H2 hy
    have g2 := gg.step s2
    refine hg L G0 _ G2 H2 _ _ _ v _ _ g2 hx (hs i xs[i] acc (by simp [c]) w) fun σ3 e3 g3 w3 q3 => ⟨by rw [w3 vs hj, wipe_wipe], ?_⟩
    refine ht L G0 _ G2 H2 σ3 e3 _ _ g3 q3 fun c3 G4 H4 s4 q4 => ?_
    have g4 := g3.step s4
    have s14 := (st.trans s2).trans s4
    have d2 : G2 Dl = none := s2.new Dl nb (by rw [hHD]; simp) hgD
    have d4 : G4 Dl = none := s4.new Dl nb (by rw [s2.fr0 nb hHD]; simp) d2
    have h4 : H4 Dl = some (.lst va) := s4.fr0 nb (s2.fr0 nb hHD)
    have r4 := (hra.mono s2.g).mono s4.g
    cases c3 with
    | false => exact ⟨G4, acc, va, s14, d4, h4, r4, q4⟩
    | true =>
      refine hi1 L G0 _ G4 H4 σ3 e3 _ _ g4 q4 fun J1 ys G5 H5 s5 hJ1 q5 => ?_
      obtain ⟨W1, v0, ts, td⟩ := q5
      have g5 := g4.step s5
      have d5 : G5 Dl = none := s5.new Dl nb (by rw [h4]; simp) d4
      have h5 : H5 Dl = some (.lst va) := s5.fr0 nb h4
      refine ⟨fun j m H => m = ys.length - j ∧ j ≤ ys.length ∧ ∃ G acc va, Good K b L G0 (L2.upd H0 Dl (.lst va)) G H σ3 e3 ∧ Sub G5 G ∧ Stp b [] G1 H1 G H ∧ G Dl = none ∧ H Dl = some (.lst va) ∧ RepL K G acc va ∧ W1 j acc, ⟨ys.length, by simp, Nat.zero_le _, G5, acc, va, g5, Sub.refl _, s14.trans s5, d5, h5, r4.mono s5.g, v0⟩, ?_⟩
      rintro j m H ⟨rfl, hj0, G6, acc, va, g6, sb6, s16, d6, h6, r6, v6⟩
      obtain ⟨k1, k2⟩ := hJ1 G6 H sb6 g6.ex g6.lk j
      by_cases cc : j < ys.length
      · obtain ⟨go1, y1⟩ := k1 ys[j] (by simp [cc])
        refine .inr ⟨go1, fun H' => ∃ G acc va, Good K b L G0 (L2.upd H0 Dl (.lst va)) G H' σ3 e3 ∧ Sub G5 G ∧ Stp b [] G1 H1 G H' ∧ G Dl = none ∧ H' Dl = some (.lst va) ∧ RepL K G acc va ∧ W1 (j + 1) acc, fun H' q => ⟨ys.length - (j + 1), by omega, rfl, by omega, q⟩, fun v7 H7 hy7 => ?_⟩
        obtain ⟨G7, s7, hx7⟩ := y1 v7 H7 hy7
        have g7 := (g6.step s7).wipe vs1
        refine hg1 L G0 _ G7 H7 _ _ _ v7 _ _ g7 hx7 (ts j ys[j] acc (by simp [cc]) v6) fun σ8 e8 g8 w8 q8 => ⟨by rw [w8 vs1 hj1, wipe_wipe], ?_⟩
        refine ht1 L G0 _ G7 H7 σ8 e8 _ _ g8 q8 fun c9 G9 H9 s9 q9 => ?_
        have g9 := g8.step s9
        have d7 : G7 Dl = none := s7.new Dl nb (by rw [h6]; simp) d6
        have h7 : H7 Dl = some (.lst va) := s7.fr0 nb h6
        have d9 : G9 Dl = none := s9.new Dl nb (by rw [h7]; simp) d7
        have h9 : H9 Dl = some (.lst va) := s9.fr0 nb h7
        have r9 := (r6.mono s7.g).mono s9.g
        cases c9 with
        | false => exact ⟨G9, acc, va, (g6.step s7).step s9, (sb6.trans s7.g).trans s9.g, (s16.trans s7).trans s9, d9, h9, r9, q9⟩
        | true =>
          refine he L G0 _ G9 H9 σ8 e8 _ _ g9 q9 fun va' ra GA HA sA hrA qA => ?_
          obtain ⟨dB, GB, sB, hdB, hl, qB⟩ := hrA.freeze sA qA
          have dd : GB Dl = none := sB.new Dl nb (by rw [h9]; simp) d9
          have hh : HA Dl = some (.lst va) := sB.fr0 nb h9
          have rB : RepL K GB acc va := r9.mono sB.g
          have gB : Good K b L G0 (L2.upd H0 Dl (.lst va)) GB HA σ3 e3 := ((g6.step s7).step s9).step sB
          exact ⟨va, hh, by rw [rB.length]; exact lt_line hl, GB, acc ++ [dB], va ++ [va'], gB.turn gd.xl hD0 nb dd hh (fun _ _ z => by cases z), ((sb6.trans s7.g).trans s9.g).trans sB.g, (((s16.trans s7).trans s9).trans sB).mut nb hD dd, dd, upd_same, rB.append (RepL.one hdB), qB⟩
      · have e1 : j = ys.length := by omega
        subst e1
        exact .inl ⟨k2 (Nat.le_refl _), G6, acc, va, s16, d6, h6, r6, td acc v6⟩
  · have e1 : i = xs.length := by omega
    subst e1
    refine .inl ⟨j2 (Nat.le_refl _), ?_⟩
    exact k _ (.ow (.lst acc)) G' H (s1.trans st) ⟨Dl, _, rfl, nb, s1.back Dl nb hD, hgD, hHD, va, rfl, hra⟩ (hd acc w)
theorem blk_i {scope : Scope} {tg it : Expr} {u : DI} (h : Blk X scope fun Y => PDI Y b tg it u) : ∃ t, (∀ (s : Shared) (H : Hp) (C : Addr) (cl : List (Str × Addr)) (fp : List Addr), PI (X.blk s H scope (compEnvC scope cl C X.env) fp) tg it t) ∧ LI X.K b t u := by
  have q : ∀ z : Shared × Hp × Addr × List (Str × Addr) × List Addr, ∃ t, PI (X.blk z.1 z.2.1 scope (compEnvC scope z.2.2.2.1 z.2.2.1 X.env) z.2.2.2.2) tg it t ∧ LI X.K b t u := fun z => (h z.1 z.2.1 z.2.2.1 z.2.2.2.1 z.2.2.2.2).ex
  exact ⟨fun σ H R => ∀ z, (q z).choose σ H R, fun s H C cl fp => ⟨fun pins s' σ' H' R I hh => (q (s, H, C, cl, fp)).choose_spec.1.run pins s' σ' H' R I (hh _)⟩, fun L G0 H0 G H σ e P Q g hu k z => (q z).choose_spec.2 L G0 H0 G H σ e P Q g hu k⟩
theorem d_lc2 {elt tg iter tg1 iter1 : Expr} {ifs ifs1 : List Expr} {scope : Scope} {own : List (Str × Nat)} {vs1 : List Nat} {pos : Pos} {ui ui1 : DI} {js js1 : List Nat} {ug ug1 : DG} {ut ut1 : DT} {ue : DE} (hN : X.N.Nodup) (ok : blkC X.N X.env.scope scope own = true) (hv : ∀ i ∈ vs1, i ∈ own.map (·.2)) (hj : ∀ j ∈ js, j ∈ own.map (·.2)) (hj1 : ∀ j ∈ js1, j ∈ vs1) (hi : PDI X b tg iter ui)
    (hg : Blk X scope fun Y => PDG Y b tg js ug) (ht : Blk X scope fun Y => PDTs Y b ifs ut) (hi1 : Blk X scope fun Y => PDI Y b tg1 iter1 ui1) (hg1 : Blk X scope fun Y => PDG Y b tg1 js1 ug1) (ht1 : Blk X scope fun Y => PDTs Y b ifs1 ut1) (he : Blk X scope fun Y => PD Y b elt ue) (hc : X.calm = true := by rfl) (hs : ∀ x, foldedSetIterable iter X.env x = pure x := by intro _; rfl) (hs1 : ∀ env x, foldedSetIterable iter1 env x = pure x := by intro _ _; rfl) :
    PD X b (.ListComp elt [⟨tg, iter, ifs, 0⟩, ⟨tg1, iter1, ifs1, 0⟩] scope pos) (uLc2 ui ug ut ui1 ug1 ut1 ue (own.map (·.2)) vs1) := by
  obtain ⟨wi, p1, l1⟩ := hi
  obtain ⟨g, p2, l2⟩ := blk_g hg
  obtain ⟨tt, p3, l3⟩ := blk_t ht
  obtain ⟨wi1, q1, m1⟩ := blk_i hi1
  obtain ⟨g1, q2, m2⟩ := blk_g hg1
  obtain ⟨tt1, q3, m3⟩ := blk_t ht1
  obtain ⟨te, p4, l4⟩ := blk_e he
  exact ⟨_, pe_lc2 hc hN p1 (blkOk_by ok) hv p2 p3 q1 q2 q3 p4 hs hs1, le_lc2 l1 l2 l3 m1 m2 m3 l4 hj hj1⟩
theorem ds_setLc2 {i : Nat} {y : Str} {py : Pos} {elt tg iter tg1 iter1 : Expr} {ifs ifs1 : List Expr} {scope : Scope} {own : List (Str × Nat)} {vs1 : List Nat} {pos spos : Pos} {ui ui1 : DI} {js js1 : List Nat} {ug ug1 : DG} {ut ut1 : DT} {ue : DE} (hN : X.N.Nodup) (ok : blkC X.N X.env.scope scope own = true) (hv : ∀ i ∈ vs1, i ∈ own.map (·.2)) (hj : ∀ j ∈ js, j ∈ own.map (·.2)) (hj1 : ∀ j ∈ js1, j ∈ vs1) (hi : PDI X b tg iter ui)
    (hg : Blk X scope fun Y => PDG Y b tg js ug) (ht : Blk X scope fun Y => PDTs Y b ifs ut) (hi1 : Blk X scope fun Y => PDI Y b tg1 iter1 ui1) (hg1 : Blk X scope fun Y => PDG Y b tg1 js1 ug1) (ht1 : Blk X scope fun Y => PDTs Y b ifs1 ut1) (he : Blk X scope fun Y => PD Y b elt ue)
    (hsw : swapsWith (.ListComp elt [⟨tg, iter, ifs, 0⟩, ⟨tg1, iter1, ifs1, 0⟩] scope pos) (some (.Name y py)) spos.line X.env = pure true) (hy : X.N[i]? = some y := by rfl) (hyl : X.env.scope.names.lookup y = some .local := by rfl) (hc : X.calm = true := by rfl) (hs : ∀ x, foldedSetIterable iter X.env x = pure x := by intro _; rfl) (hs1 : ∀ env x, foldedSetIterable iter1 env x = pure x := by intro _ _; rfl) :
    PDS X b (.Assign [.Name y py] (.ListComp elt [⟨tg, iter, ifs, 0⟩, ⟨tg1, iter1, ifs1, 0⟩] scope pos) spos) (uSet i (uX (uLc2 ui ug ut ui1 ug1 ut1 ue (own.map (·.2)) vs1))) := by
  obtain ⟨wi, p1, l1⟩ := hi
  obtain ⟨g, p2, l2⟩ := blk_g hg
  obtain ⟨tt, p3, l3⟩ := blk_t ht
  obtain ⟨wi1, q1, m1⟩ := blk_i hi1
  obtain ⟨g1, q2, m2⟩ := blk_g hg1
  obtain ⟨tt1, q3, m3⟩ := blk_t ht1
  obtain ⟨te, p4, l4⟩ := blk_e he
  refine ⟨_, ps_setLc2 hc hN hy hyl hsw p1 (blkOk_by ok) hv p2 p3 q1 q2 q3 p4 hs hs1, ?_⟩
  intro L G0 H0 G H σ e DD D g ok hu
  refine lx_of (le_lc2 l1 l2 l3 m1 m2 m3 l4 hj hj1) L G0 H0 G H σ e _ _ g hu fun v r e' G' H' g' hr q => ?_
  obtain ⟨d, G2, g2, hd, q⟩ := hr.freeze g' q
  exact ok.nx _ _ _ _ (g2.setS i hd) q
end
end DL
namespace DL
open PySem L2 PyProof.Rows
section
variable {X : Cx} {b : Bg} {K : PySem.W.Frag}
/-! ### list(range(n)) -/
def uLRg (u : DE) : DE := fun e P => u e fun r => ∃ n : Int, r.look = .int n ∧ -1000000 ≤ n ∧ n ≤ 1000000 ∧ P (.ow (.lst (nums 0 n.toNat)))
theorem rgV_rep {G : Hp} (n : Int) : RepL K G (nums 0 n.toNat) (rgV 0 n) := by
  unfold nums rgV
  rw [Int.sub_zero]
  exact repL_map (f := fun i : Nat => D.int (0 + (i : Int))) (g := fun i : Nat => V.int (0 + (i : Int))) (fun _ => rfl) _
theorem d_listRg {a : Expr} {u : DE} {p p2 pos pos2 : Pos} (hm : X.mg "list" = none) (hm2 : X.mg "range" = none) (h : PD X b a u) (hc : X.calm = true := by rfl) (hg : Gl X "list" := by rfl) (hg2 : Gl X "range" := by rfl) (na : starEach [a] X.env = (false, eval a X.env) :: starEach [] X.env := by rfl)
    (nb : starEach [.Call (.Name "range" p2) [a] [] pos2] X.env = (false, eval (.Call (.Name "range" p2) [a] [] pos2) X.env) :: starEach [] X.env := by rfl) : PD X b (.Call (.Name "list" p) [.Call (.Name "range" p2) [a] [] pos2] [] pos) (uLRg u) := by
  obtain ⟨t, pe, l⟩ := h
  refine ⟨_, pe_listRg hc hg hm (prg_1 hg2 hm2 pe na) nb, ?_⟩
  intro L G0 H0 G H σ e P Q g hu k
  refine l L G0 H0 G H σ e _ _ g hu fun v r G1 H1 s1 hr q => ?_
  obtain ⟨n, hn, h1, h2, q⟩ := q
  have tp := hr.top (g.step s1)
  rw [hn] at tp
  cases tp
  refine ⟨n, rfl, ⟨by decide, by decide, by omega, by omega, by omega⟩, fun p hp => ?_⟩
  exact (g.step s1).newL (rgV_rep n) q (fun v r G2 H2 s2 hr2 p2 => k v r G2 H2 (s1.trans s2) (hr2.back fun a hb z => s1.back a hb z) p2) p hp
/-! ### f(bag, [x, y]) where x, y are made just now and one of them is answered -/
def uPickB (f : FS) (i : Nat) (u1 u2 : DE) : DE := fun e P => nth e i = .bag ∧ u1 e fun r1 => ∃ o1, r1 = .ow o1 ∧ u2 e fun r2 => ∃ o2, r2 = .ow o2 ∧ ∀ a1 a2 : Addr, f [.lst [.fn a1, .fn a2]] fun r => (r = .sh (.fn a1) ∧ P (.ow o1)) ∨ (r = .sh (.fn a2) ∧ P (.ow o2))
theorem d_pickB {x y : Str} {i k : Nat} {ps : List Str} {f : FS} {c1 c2 : Expr} {u1 u2 : DE} {p py pl pos : Pos} (F : Known X.prog X.w X.K X.mg X.base x k ps (spB X.K f)) (hr : Room k X.A) (h1 : PD X b c1 u1) (h2 : PD X b c2 u2) (hN : X.N[i]? = some y := by rfl)
    (hv : Vis X.env.scope y := by first | exact Or.inl rfl | exact Or.inr (Or.inl rfl) | exact Or.inr (Or.inr rfl)) (hg : Gl X x := by rfl) (hdb : (x == ("__debug__" : Str)) = false := by decide) (hdy : (y == ("__debug__" : Str)) = false := by decide) (hcy : (y == ("__classdict__" : Str)) = false := by decide)
    (hs1 : starEach (c1 :: [c2]) X.env = (false, eval c1 X.env) :: starEach [c2] X.env := by rfl) (hs2 : starEach (c2 :: []) X.env = (false, eval c2 X.env) :: starEach [] X.env := by rfl)
    (hl : starEach (.List [c1, c2] pl :: []) X.env = (false, eval (.List [c1, c2] pl) X.env) :: starEach [] X.env := by rfl)
    (he : starEach (.Name y py :: [.List [c1, c2] pl]) X.env = (false, eval (.Name y py) X.env) :: starEach [.List [c1, c2] pl] X.env := by rfl) (hpl : (backTo pos (starEach [.List [c1, c2] pl] X.env)).any (·.1) = false := by rfl) : PD X b (.Call (.Name x p) [.Name y py, .List [c1, c2] pl] [] pos) (uPickB f i u1 u2) := by
  obtain ⟨fa, fd, F, hm, hk, hb⟩ := F
  obtain ⟨t1, p1, l1⟩ := h1
  obtain ⟨t2, p2, l2⟩ := h2
  refine ⟨_, pe_call F hr hg hm hk hb .nil pass0 (pa_cons (pe_var hN hv hdy hcy) (pa_cons (pe_lst (pa_cons p1 (pa_cons p2 pa_nil hs2) hs1)) pa_nil hl) he) hdb he hpl, ?_⟩
  intro L G0 H0 G H σ e P Q g hu k
  obtain ⟨hi, hu⟩ := hu
  obtain ⟨ab, ea, hs⟩ := g.slot i _ (nth_get hi (by simp))
  refine ⟨_, hs, ?_⟩
  refine l1 L G0 H0 G H σ e _ _ g hu fun v1 r1 G1 H1 s1 hr1 q1 => ?_
  obtain ⟨o1, rfl, q1⟩ := q1
  have g1 := g.step s1
  refine l2 L G0 H0 G1 H1 σ e _ _ g1 q1 fun v2 r2 G2 H2 s2 hr2 q2 => ?_
  obtain ⟨o2, rfl, q2⟩ := q2
  have g2 := g1.step s2
  obtain ⟨a1, ho1, rfl, b1, n1, d1, e1, w1⟩ := hr1
  obtain ⟨a2, ho2, rfl, b2, n2, d2, e2, w2⟩ := hr2
  have e1' : H2 a1 = some ho1 := s2.fr0 b1 e1
  have d1' : G2 a1 = none := s2.new a1 b1 (by rw [e1]; simp) d1
  refine ⟨by show 2 ≤ sizeLine; rw [sizeLine_eq]; decide, fun p hp => ?_⟩
  have sl : Stp b.a [] G2 H2 (L2.upd G2 p (.lst [.ref a1, .ref a2])) (L2.upd H2 p (.lst [.ref a1, .ref a2])) := Stp.laid g2.ex hp
  have g3 := g2.step sl
  show spB X.K f ([.ref ab, .ref p] ++ []) _ Q E0
  rw [List.append_nil]
  refine ⟨ab, [.ref p], _, [.lst [.fn a1, .fn a2]], _, rfl, g3.ex, g3.bag ab ea, ⟨.ref p, [], rfl, ⟨p, _, rfl, upd_same, .ref a1, _, rfl, rfl, .ref a2, _, rfl, rfl, rfl⟩, rfl⟩, q2 a1 a2, fun v r G' H' s hr hp' => ?_⟩
  rw [← ea] at s
  have st := ((s1.trans s2).trans sl).trans s
  have back : ∀ (a : Addr) (ho : HO) (o : OD) (Gx Hx : Hp), b.a ≠ some a → H a = none → Gx a = none → Hx a = some ho → RepO X.K Gx o ho → Stp b.a [] Gx Hx G2 H2 → RepR X.K b.a H σ e G' H' (.ow o) (.ref a) := fun a ho o Gx Hx nb na ga ha wo sx => by
    have h2a : H2 a = some ho := sx.fr0 nb ha
    have pa : a ≠ p := fun z => by rw [z, hp] at h2a; cases h2a
    have h3a : (L2.upd H2 p (.lst [.ref a1, .ref a2])) a = some ho := by rw [upd_ne pa]; exact h2a
    have g2a : G2 a = none := sx.new a nb (by rw [ha]; simp) ga
    have g3a : (L2.upd G2 p (.lst [.ref a1, .ref a2])) a = none := by rw [upd_ne pa]; exact g2a
    exact ⟨a, ho, rfl, nb, na, s.new a nb (by rw [h3a]; simp) g3a, s.fr0 nb h3a, ((wo.mono sx.g).mono sl.g).mono s.g⟩
  rcases hp' with ⟨rfl, q⟩ | ⟨rfl, q⟩
  · obtain rfl : v = .ref a1 := hr
    exact k _ (.ow o1) G' H' st (back a1 ho1 o1 G1 H1 b1 n1 d1 e1 w1 s2) q
  · obtain rfl : v = .ref a2 := hr
    exact k _ (.ow o2) G' H' st (back a2 ho2 o2 G2 H2 b2 (s1.back a2 b2 n2) d2 e2 w2 (Stp.refl g2.ex)) q
/-! ### C.m(), m a staticmethod -/
/-- C.m is a staticmethod: its record at p, its def at g -/
structure SMet (K : PySem.W.Frag) (C : Addr) (mc : Value) (m : Str) (p g : Addr) : Prop where
  at_ : PySem.W.findCls K (.ref C) mc m = some (.get (.builtin "staticmethod.__get__") (.ref p) .none (.ref C))
  rc : ∃ rest, PySem.W.recIn K p "staticmethod" = some (.ref g :: rest)
theorem getsm_ok {pins : List (Addr × Obj)} {σ : L2.St} {H : Hp} {s : Shared} {C p g : Addr} {mc : Value} {m : Str} {A : Around} {E : Value → Shared → Prop} {pl : Sem Bool} {Q : Value × List Value → Shared → Prop} (I : Inv X pins σ H s) (r : ClX.CRead X.K C mc) (k : SMet X.K C mc m p g)
    (h : ∀ s', Inv X pins σ H s' → Q (.ref g, []) s') : wpAny (model X.prog X.w) A (getMethod (.ref C) m pl) Q E s := by
  obtain ⟨rest, hp⟩ := k.rc
  refine PySem.W.method_cls I.kIn r.ga (PySem.W.cls_bind I.kIn r.rd k.at_ (wpAny_call (PySem.W.sm_get (s := { s with toks := s.toks + 1 }) I.kIn hp (PySem.W.handed_on rfl ?_))))
  exact h _ (I.tok _)
def tSm (C : Addr) (sp : Sp) (ta : TE) : TE := fun σ H Q => ta σ H fun x H1 => x = .ref C ∧ sp [] H1 Q E0
theorem pe_sm0 {C p g : Addr} {mc : Value} {m : Str} {CX : CXT} {k : Nat} {fd : FuncData} {ps : List Str} {sp : Sp} {o : Expr} {pos apos : Pos} {ta : TE} {pl : Sem Bool} (he : PE X o ta) (r : ClX.CRead X.K C mc) (c : SMet X.K C mc m p g) (F : FnOk X.prog X.w X.K X.mg X.base CX k g fd ps sp) (hk : PySem.W.keepIn X.K (.ref g) = true) (hr : Room k X.A) (hb : Binds X.K fd ps []) (hx : Passes CX X E0)
    (ht : eval (.Call (.Attribute o m apos) [] [] pos) X.env = (do
      let ov ← eval o X.env
      standAt apos.atName
      let (f, first) ← holding [ov] (getMethod ov m pl)
      callWith pos f first (backTo pos (starEach [] X.env)) (backToKw pos (keywordEach [] X.env)))) : PE X (.Call (.Attribute o m apos) [] [] pos) (tSm C sp ta) := by
  constructor
  intro pins s σ H Q I h
  refine PySem.W.methodCall_KW (pl := pl) (thn (he.run pins s σ H _ I h) fun u s1 ⟨x, H1, I1, rx, ex, q⟩ => ?_) ht
  subst ex
  obtain rfl : u = Value.ref C := rx
  refine getsm_ok I1 r c fun s2 I2 => ?_
  exact PySem.W.callWith_K0 I2.kIn hk (run_fn (us := []) (vs := []) F hr hb .nil hx I2 .nil q)
structure KnownS (P : Program) (w : World) (K : PySem.W.Frag) (mg : Str → Option Value) (base : Heap) (C : Addr) (mc : Value) (m : Str) (k : Nat) (ps : List Str) (sp : Sp) : Prop where
  ex : ∃ p g fd, FnOk P w K mg base CX0 k g fd ps sp ∧ SMet K C mc m p g ∧ PySem.W.keepIn K (.ref g) = true ∧ Binds K fd ps []
theorem d_sm0 {C : Addr} {mc : Value} {m x : Str} {k : Nat} {ps : List Str} {f : FS} {p pos apos : Pos} {pl : Sem Bool} (F : KnownS X.prog X.w X.K X.mg X.base C mc m k ps (spN X.K f)) (hr : Room k X.A) (hm : X.mg x = some (.ref C)) (r : ClX.CRead X.K C mc) (hg : Gl X x := by rfl) (hd : (x == ("__debug__" : Str)) = false := by decide)
    (ht : eval (.Call (.Attribute (.Name x p) m apos) [] [] pos) X.env = (do
      let ov ← eval (.Name x p) X.env
      standAt apos.atName
      let (f, first) ← holding [ov] (getMethod ov m pl)
      callWith pos f first (backTo pos (starEach [] X.env)) (backToKw pos (keywordEach [] X.env))) := by rfl) : PD X b (.Call (.Attribute (.Name x p) m apos) [] [] pos) (uCall f uNil) := by
  obtain ⟨rp, fa, fd, F, hs, hk, hb⟩ := F
  refine ⟨_, pe_sm0 (pe_glob (v := .ref C) hg hm rfl hd) r hs F hk hr hb pass0 ht, ?_⟩
  intro L G0 H0 G H σ e P Q g hu k
  refine ⟨rfl, G, [], P, g.ex, rfl, hu, fun v r G' H' s hr hp => ?_⟩
  have s' : Stp b [] G H G' H' := s.some
  refine k v r G' H' s' ?_ hp
  cases r with
  | sh d => exact hr
  | ow o =>
    obtain ⟨a, ho, h1, _, h3, h4⟩ := hr
    exact ⟨a, ho, h1, g.nb h3, h3, h4⟩
  | al i o => obtain ⟨⟨_, h⟩, _⟩ := hr; simp at h
end
end DL
namespace DL
open PySem L2 PyProof.Rows
/-! ### defs that raise -/
/-- what a def asks of its data, what it answers, what it lets out -/
abbrev FSX := List D → (R → Prop) → (XD → Prop) → Prop
def spX (K : PySem.W.Frag) (f : FSX) : Sp := fun vs H Q E => ∃ G ds P XP, Ex G H ∧ RepL K G ds vs ∧ f ds P XP ∧ (∀ v r G' H', Stp none [] G H G' H' → RepR K none H [] [] G' H' r v → P r → Q v H') ∧ ∀ x cls d G' H', Stp none [] G H G' H' → XRep K G' H' x cls d → XP x → E cls d H'
structure KnownX (P : Program) (w : World) (K : PySem.W.Frag) (mg : Str → Option Value) (base : Heap) (x : Str) (k : Nat) (ps : List Str) (sp : Sp) : Prop where
  ex : ∃ f fd, FnOk P w K mg base (L2.CX P w) k f fd ps sp ∧ mg x = some (.ref f) ∧ PySem.W.keepIn K (.ref f) = true ∧ Binds K fd ps []
section
variable {X : Cx} {b : Bg} {K : PySem.W.Frag}
/-- the link from the ground to what gets out -/
theorem Good.out {L : Lk} {G0 H0 G H G' H' : Hp} {σ : L2.St} {e : List Sl} {x : XD} {cls : Value} {d : Option Addr} (g : Good K b L G0 H0 G H σ e) (s : Stp none [] G H G' H') (hx : XRep K G' H' x cls d) (h : b.xp x) (σ' : L2.St) : b.W cls d σ' H' := by
  cases L with
  | nil => exact g.xl.2 rfl x cls d σ' G' H' (g.stp.trans s.some) hx h
  | cons l L => exact (g.xl.1 (by simp) x h).elim
def uCallX (f : FSX) (xp : XD → Prop) (ua : DA) : DE := fun e P => ua e fun ds => f ds P xp
theorem ret_n {L : Lk} {G0 H0 G H G1 H1 G' H' : Hp} {σ : L2.St} {e : List Sl} {r : R} {v : V} (g1 : Good K b L G0 H0 G1 H1 σ e) (s1 : Stp b [] G H G1 H1) (hr : RepR K none H1 [] [] G' H' r v) : RepR K b H σ e G' H' r v := by
  cases r with
  | sh d => exact hr
  | ow o =>
    obtain ⟨a, ho, h1, _, h3, h4⟩ := hr
    have hb : b.a ≠ some a := g1.nb h3
    exact ⟨a, ho, h1, hb, s1.back a hb h3, h4⟩
  | al i o => obtain ⟨⟨_, h⟩, _⟩ := hr; simp at h
theorem d_callX {x : Str} {k : Nat} {ps : List Str} {f : FSX} {a : Expr} {es : List Expr} {ua : DA} {p pos : Pos} (tk : L2.Takes X b.W) (F : KnownX X.prog X.w X.K X.mg X.base x k ps (spX X.K f)) (hr : Room k X.A) (ha : PDA X b (a :: es) ua) (hg : Gl X x := by rfl)
    (hdb : (x == ("__debug__" : Str)) = false := by decide) (he : starEach (a :: es) X.env = (false, eval a X.env) :: starEach es X.env := by rfl) (hpl : (backTo pos (starEach es X.env)).any (·.1) = false := by rfl) : PD X b (.Call (.Name x p) (a :: es) [] pos) (uCallX f b.xp ua) := by
  obtain ⟨fa, fd, F, hm, hk, hb⟩ := F
  obtain ⟨t, pa, l⟩ := ha
  refine ⟨_, pe_call (E := fun cls d H => ∀ σ, b.W cls d σ H) F hr hg hm hk hb .nil (passes_call tk fun _ _ σ _ h => h σ) pa hdb he hpl, ?_⟩
  intro L G0 H0 G H σ e P Q g hu kk
  refine l L G0 H0 G H σ e _ _ g hu fun vs ds G1 H1 s1 hds q => ?_
  have g1 := g.step s1
  show spX X.K f (vs ++ []) H1 Q _
  rw [List.append_nil]
  exact ⟨G1, ds, P, b.xp, g1.ex, hds, q, fun v r G' H' s hr hp => kk v r G' H' (s1.trans s.some) (ret_n g1 s1 hr) hp, fun y cls d G' H' s hy h σ' => g1.out s hy h σ'⟩
/-- .. where nothing gets out -/
theorem d_callXq {x : Str} {k : Nat} {ps : List Str} {f : FSX} {a : Expr} {es : List Expr} {ua : DA} {p pos : Pos} (F : KnownX X.prog X.w X.K X.mg X.base x k ps (spX X.K f)) (hr : Room k X.A) (ha : PDA X b (a :: es) ua) (hg : Gl X x := by rfl)
    (hdb : (x == ("__debug__" : Str)) = false := by decide) (he : starEach (a :: es) X.env = (false, eval a X.env) :: starEach es X.env := by rfl) (hpl : (backTo pos (starEach es X.env)).any (·.1) = false := by rfl) : PD X b (.Call (.Name x p) (a :: es) [] pos) (uCallX f (fun _ => False) ua) := by
  obtain ⟨fa, fd, F, hm, hk, hb⟩ := F
  obtain ⟨t, pa, l⟩ := ha
  refine ⟨_, pe_call F hr hg hm hk hb .nil passL pa hdb he hpl, ?_⟩
  intro L G0 H0 G H σ e P Q g hu kk
  refine l L G0 H0 G H σ e _ _ g hu fun vs ds G1 H1 s1 hds q => ?_
  have g1 := g.step s1
  show spX X.K f (vs ++ []) H1 Q E0
  rw [List.append_nil]
  exact ⟨G1, ds, P, fun _ => False, g1.ex, hds, q, fun v r G' H' s hr hp => kk v r G' H' (s1.trans s.some) (ret_n g1 s1 hr) hp, fun y cls d G' H' s hy h => h.elim⟩
end
section
variable {P : Program} {w : World} {K : PySem.W.Frag} {mg : Str → Option Value} {base : Heap}
abbrev bE (a : Option Addr) (E : XK) (xp : XD → Prop) : Bg := ⟨a, fun cls d _ H => E cls d H, xp⟩
theorem fnOk_X {x qual : Str} {st : Stmt} {f : Addr} {fd : FuncData} {N ps : List Str} {k : Nat} {fs : FSX} {u : (XD → Prop) → DS} (F : Fun K x qual st f fd) (S : FnScope N ps (defScope st)) (len : ∀ ds P XP, fs ds P XP → ds.length = ps.length)
    (hb : ∀ (xp : XD → Prop) (cdv : Value) (A : Around) (outer : List Env) (s : Shared) (H : Hp) (E : XK), Room k (A.deeper (envOfC qual (defScope st) s.heap.objs.size f cdv)) → L2.Takes (cxOf (L2.CX P w) P w K mg base N qual (defScope st) f cdv A outer s H E) (bE none E xp).W → PassesOwn (model P w) (cxOf (L2.CX P w) P w K mg base N qual (defScope st) f cdv A outer s H E).A (cxOf (L2.CX P w) P w K mg base N qual (defScope st) f cdv A outer s H E).env (cxOf (L2.CX P w) P w K mg base N qual (defScope st) f cdv A outer s H E).xe → PDSs (cxOf (L2.CX P w) P w K mg base N qual (defScope st) f cdv A outer s H E) (bE none E xp) (defBody st) (u xp))
    (hu : ∀ ds P XP, fs ds P XP → u XP ⟨fun _ => P (.sh .non), fun r _ => P r, fun _ => False, fun _ => False⟩ (env0 N ds)) : FnOk P w K mg base (L2.CX P w) (k + 1) f fd ps (spX K fs) := by
  refine F.okX S (fun vs H Q E h => ?_) (fun cdv A outer s H vs Q E hr h => ?_)
  · obtain ⟨G, ds, P, XP, _, hr, hf, _⟩ := h
    rw [hr.length]; exact len ds P XP hf
  · obtain ⟨G, ds, P', XP, ex, hds, hf, kk, kx⟩ := h
    obtain ⟨t, p, l⟩ := hb XP cdv A outer s H E hr (takes_of rfl rfl rfl rfl) (passes_of rfl)
    have g0 := good0 (N := N) ex hds
    refine ⟨t, p, l [] G H G H _ _ ⟨fun _ => P' (.sh .non), fun r _ => P' r, fun _ => False, fun _ => False⟩ _ ⟨g0.toGood0, fun h => (h rfl).elim, fun _ x cls d σ G' H' st hx h => kx x cls d G' H' st hx h⟩ ⟨fun G' H' σ e g h => ?_, fun G' H' σ e v r g hr h => ?_, fun G' H' σ e g h => h.elim, fun G' H' σ e g h => h.elim⟩ (hu ds P' XP hf)⟩
    · exact kk .non (.sh .non) G' H' g.stp rfl h
    · exact kk v r G' H' g.stp hr h
end
end DL
namespace DL
open PySem L2 PyProof.Rows
/-! ### raise C(..), C a class of ours with an own __init__ -/
/-- C's __init__: its arguments, the fields that it leaves -/
def spE (K : PySem.W.Frag) (C : Addr) (fE : List D → Option (List (Str × D))) : Sp := fun vs H Q _ => ∃ (a : Addr) (G : Hp) (vs' : List V) (ds : List D) (out : List (Str × D)), vs = .ref a :: vs' ∧ H a = some (exo a C none) ∧ RepL K G ds vs' ∧ fE ds = some out ∧
  ∀ (d : Addr) (fs : List (Str × V)) (H' : Hp), H d = none → H' a = some (exo a C (some d)) → H' d = some (exd d fs) → (∀ c, c ≠ a → c ≠ d → H' c = H c) → (∀ f y, out.lookup f = some y → ∃ v, fs.lookup f = some v ∧ Rep K G y v) → Q .non H'
structure KnownE (P : Program) (w : World) (K : PySem.W.Frag) (mg : Str → Option Value) (base : Heap) (x : Str) (C : Addr) (k : Nat) (ps : List Str) (fE : List D → Option (List (Str × D))) : Prop where
  ex : ∃ fI fd, FnOk P w K mg base CX0 k fI fd ps (spE K C fE) ∧ OexC K C ∧ PySem.W.findIn K (.ref C) "__init__" = some (some (.ref fI)) ∧ PySem.W.typeIn K (.ref fI) = some (.type "function") ∧ Binds K fd ps [] ∧ mg x = some (.ref C)
section
variable {X : Cx} {b : Bg} {K : PySem.W.Frag}
def uRaise (xp : XD → Prop) (C : Addr) (fE : List D → Option (List (Str × D))) (ua : DA) : DS := fun _ e => ua e fun ds => ds.length ≤ 1000 ∧ ∃ out, fE ds = some out ∧ xp (C, out)
theorem exo_ne {a C : Addr} {d : Option Addr} {o : HO} (h : ∀ φ, o ≠ .ext φ) : o ≠ exo a C d := fun z => h _ z
theorem raise_core {C : Addr} {fE : List D → Option (List (Str × D))} {ta : TA} {ua : DA} (l : LA K b ta ua) : LS K b (fun _ σ H => tMkO C (spE K C fE) [] ta σ H fun cls d H' => b.W cls d σ H') (uRaise b.xp C fE ua) := by
  intro L G0 H0 G H σ e DD D g ok hu
  refine l L G0 H0 G H σ e _ _ g hu fun vs ds G1 H1 s1 hds q => ?_
  obtain ⟨hl, out, hf, hx⟩ := q
  have g1 := g.step s1
  refine ⟨by rw [hds.length]; exact hl, fun a ha => ?_⟩
  rw [List.append_nil]
  have ga : G1 a = none := g1.ex.none ha
  refine ⟨a, G1, vs, ds, out, rfl, upd_same, hds, hf, fun d fs H' hd h1 h2 hc hfs => ⟨rfl, d, fs, h1, h2, ?_, ?_⟩⟩
  · by_cases z : d = a
    · subst z; rw [upd_same] at hd; cases hd
    · rwa [upd_ne z] at hd
  · have nda : d ≠ a := fun z => by subst z; rw [upd_same] at hd; cases hd
    have hd1 : H1 d = none := by rwa [upd_ne nda] at hd
    have hH : ∀ c, c ≠ d → (L2.upd (L2.del H' a) d (.xd fs)) c = H1 c := fun c ncd => by
      rw [upd_ne ncd]
      by_cases z : c = a
      · subst z; rw [L2.del_same, ha]
      · rw [L2.del_ne z, hc c z ncd, upd_ne z]
    have eH : L2.upd (L2.del H' a) d (.xd fs) = L2.upd H1 d (.xd fs) := by
      funext c
      by_cases z : c = d
      · subst z; rw [upd_same, upd_same]
      · rw [hH c z, upd_ne z]
    have st : Stp none [] G1 H1 (L2.upd G1 d (.xd fs)) (L2.upd (L2.del H' a) d (.xd fs)) := by rw [eH]; exact Stp.laid g1.ex hd1
    exact g1.out (x := (C, out)) st ⟨rfl, d, fs, rfl, upd_same, upd_same, fun f y h => by obtain ⟨v, q1, q2⟩ := hfs f y h; exact ⟨v, q1, q2.mono st.g⟩⟩ hx σ
/-- C(), nothing handed over -/
theorem pmk_oex0 {CX : CXT} {x : Str} {C fI : Addr} {k : Nat} {fd : FuncData} {ps : List Str} {sp : Sp} {p pos : Pos} (T : OexC X.K C) (iC : PySem.W.findIn X.K (.ref C) "__init__" = some (some (.ref fI))) (tI : PySem.W.typeIn X.K (.ref fI) = some (.type "function"))
    (F1 : FnOk X.prog X.w X.K X.mg X.base CX k fI fd ps sp) (hr : Room (k + 1) X.A) (hb : Binds X.K fd ps []) (hx : Passes CX X (fun _ _ _ => False)) (hg : Gl X x) (hm : X.mg x = some (.ref C)) (hdb : (x == ("__debug__" : Str)) = false) : PMk X (.Call (.Name x p) [] [] pos) (tMkO C sp [] tNil) := by
  intro pins s σ H Q I h
  obtain ⟨nm, q, N, bs, bm, sn, sub, ab, col, dd, k0, k1, k2, k3, k5, hC, hbm⟩ := T.cls
  obtain ⟨_, hq⟩ := h
  refine wpAny_Call_Name_kw (ld_glob I hg hm (PySem.W.callWith_K0 I.kIn T.kC ?_) hdb)
  obtain ⟨hp, g, dr, tk, os⟩ := s
  have z1 : hp.objs.size ≤ hp.objs.size + 1 := Nat.le_succ _
  have hq := hq (hp.objs.size + 1) (I.hok.fresh z1)
  have ext : ∀ c u, hp.get? c = some u → ((hp.push (PySem.W.kdv_tup [])).push (PySem.HandSPX.excO C hp.objs.size)).get? c = some u := fun c u e => Heap.get?_push_of_some _ (Heap.get?_push_of_some _ e)
  have at_ : ((hp.push (PySem.W.kdv_tup [])).push (PySem.HandSPX.excO C hp.objs.size)).get? (hp.objs.size + 1) = some (PySem.HandSPX.excO C hp.objs.size) := by heap_get
  have J : Inv X pins σ (upd H (hp.objs.size + 1) (exo (hp.objs.size + 1) C none)) ⟨(hp.push (PySem.W.kdv_tup [])).push (PySem.HandSPX.excO C hp.objs.size), g, dr, tk, os⟩ := I.laid (t' := tk) (a := hp.objs.size + 1) (o := exo (hp.objs.size + 1) C none) ext z1 (exo_ok at_)
  have rv : Vals ([V.ref (hp.objs.size + 1)]) ([Value.ref (hp.objs.size + 1)]) := .cons rfl .nil
  have len1 : ([Value.ref (hp.objs.size + 1)] ++ []).length = ps.length := (F1.len _ _ _ _ hq ▸ rfl : ps.length = 1).symm ▸ rfl
  refine wpAny_call (PySem.HandSPX.call_own F.excBase_ValueError (fun Y => PySem.HandSPX.refsVE_contains Y bm hbm) (I.kIn _ _ hC) (PySem.W.looks_findIn I.kIn iC) (fun self => PySem.W.bind_fn I.kIn self tI) (Nat.zero_le _)
    (codeAny_mono (F1.run _ X.stack _ _ ⟨[Value.ref (hp.objs.size + 1)], []⟩ [Value.ref (hp.objs.size + 1)] _ _ (fun _ _ _ => False) (hr.make C [] []) (J.env0.make C [] []) (hb _ [Value.ref (hp.objs.size + 1)] J.kIn len1) rv hq) fun r s' hr' => ?_))
  cases r with
  | error er => exact hx pins σ _ _ er s' J hr'
  | ok fl =>
    cases fl with
    | ret u =>
      obtain ⟨v, H2, os2, bare2, un2, hok2, rvv, ev, d, fs, ea, ed, hd1, q2⟩ := hr'
      subst ev
      obtain ⟨h2, g2, d2, t2, os'⟩ := s'
      exact ⟨rvv, mk_end (raises_own T.exC T.tyC) I z1 ext un2 hok2 os2 bare2 ea ed hd1 q2⟩
    | next => exact hr'.elim
    | brk => exact hr'.elim
    | cont => exact hr'.elim
theorem ds_raise0 {x : Str} {C : Addr} {k : Nat} {ps : List Str} {fE : List D → Option (List (Str × D))} {p cpos pos : Pos} (tk : L2.Takes X b.W) (F : KnownE X.prog X.w X.K X.mg X.base x C k ps fE) (hr : Room (k + 1) X.A) (hg : Gl X x := by rfl) (hc : X.calm = true := by rfl)
    (hdb : (x == ("__debug__" : Str)) = false := by decide) : PDS X b (.Raise (some (.Call (.Name x p) [] [] cpos)) none pos) (uRaise b.xp C fE uNil) := by
  obtain ⟨fI, fd, F1, T, iC, tI, hb, hm⟩ := F
  exact ⟨_, L2.ps_raise hc tk (pmk_oex0 T iC tI F1 hr hb pass0 hg hm hdb), raise_core la_nil⟩
theorem ds_raise {x : Str} {C : Addr} {k : Nat} {ps : List Str} {fE : List D → Option (List (Str × D))} {a : Expr} {es : List Expr} {ua : DA} {p cpos pos : Pos} (tk : L2.Takes X b.W) (F : KnownE X.prog X.w X.K X.mg X.base x C k ps fE) (hr : Room (k + 1) X.A) (ha : PDA X b (a :: es) ua) (hg : Gl X x := by rfl) (hc : X.calm = true := by rfl)
    (hdb : (x == ("__debug__" : Str)) = false := by decide) (he : starEach (a :: es) X.env = (false, eval a X.env) :: starEach es X.env := by rfl) (hpl : (backTo cpos (starEach es X.env)).any (·.1) = false := by rfl) : PDS X b (.Raise (some (.Call (.Name x p) (a :: es) [] cpos)) none pos) (uRaise b.xp C fE ua) := by
  obtain ⟨fI, fd, F1, T, iC, tI, hb, hm⟩ := F
  obtain ⟨t, pa, l⟩ := ha
  exact ⟨_, L2.ps_raise hc tk (pmk_oex T iC tI F1 hr hb .nil pass0 hg hm pa hdb he hpl), raise_core l⟩
end
section
variable {P : Program} {w : World} {K : PySem.W.Frag} {mg : Str → Option Value} {base : Heap}
/-- def __init__(self, y): self.f = y; self.g = 'code' -/
def fE2 (f g c : Str) : List D → Option (List (Str × D)) := fun ds => match ds with
  | [x] => some [(g, .str c), (f, x)]
  | _ => none
def fE1 (g c : Str) : List D → Option (List (Str × D)) := fun ds => match ds with
  | [] => some [(g, .str c)]
  | _ => none
theorem fnE2 {qual y ff gg cc : Str} {st : Stmt} {f C : Addr} {fd : FuncData} {k : Nat} {p1 p2 p3 p4 p5 p6 q1 q2 : Pos} {j : Nat} (F : Fun K "__init__" qual st f fd) (S : FnScope ["self", y] ["self", y] (defScope st)) (T : OexC K C) (n1 : PySem.W.findIn K (.ref C) ff = some none) (n2 : PySem.W.findIn K (.ref C) gg = some none) (nfg : (ff == gg) = false)
    (hst : defBody st = [.Assign [.Attribute (.Name "self" p1) ff p2] (.Name y p3) q1, .Assign [.Attribute (.Name "self" p4) gg p5] (.Constant (.str cc) j p6) q2])
    (v0 : Vis (defScope st) "self") (v1 : Vis (defScope st) y) (d0 : (y == ("__debug__" : Str)) = false) (d1 : (y == ("__classdict__" : Str)) = false)
    (hs1 : ∀ (cdv : Value) (A : Around) (outer : List Env) (s : Shared) (H : Hp) (E : XK), swapsWith (.Name y p3) (some (.Attribute (.Name "self" p1) ff p2)) q1.line (cxOf CX0 P w K mg base ["self", y] qual (defScope st) f cdv A outer s H E).nox.env = pure false)
    (hs2 : ∀ (cdv : Value) (A : Around) (outer : List Env) (s : Shared) (H : Hp) (E : XK), swapsWith (.Constant (.str cc) j p6) (some (.Attribute (.Name "self" p4) gg p5)) q2.line (cxOf CX0 P w K mg base ["self", y] qual (defScope st) f cdv A outer s H E).nox.env = pure false) :
    FnOk P w K mg base CX0 (k + 1) f fd ["self", y] (spE K C (fE2 ff gg cc)) := by
  refine F.ok S (fun vs H Q E h => ?_) (fun cdv A outer s H vs Q E hr h => ?_)
  · obtain ⟨a, G, vs', ds, out, rfl, _, hds, hf, _⟩ := h
    match ds, hf with
    | [x], _ => rw [List.length_cons, hds.length]; rfl
  · obtain ⟨a, G, vs', ds, out, rfl, ha, hds, hf, kk⟩ := h
    match ds, hf with
    | [x], hf =>
      cases hf
      obtain ⟨v, r, rfl, hv, hr'⟩ := hds
      cases hr'
      rw [hst]
      refine ⟨_, pss_cons (ps_ost (pv 0 rfl v0) (pv 1 rfl v1 d0 d1) (hs1 cdv A outer s H E)) (pss_one (ps_ost (pv 0 rfl v0) pe_str (hs2 cdv A outer s H E))), ?_⟩
      refine ⟨v, rfl, .ref a, rfl, a, C, rfl, T, n1, .inl ⟨ha, fun dx hn ne => ?_⟩⟩
      refine ⟨.ref a, rfl, a, C, rfl, T, n2, .inr ⟨dx, _, upd_same, by rw [upd_ne ne]; exact upd_same, by show 1 ≤ 900; decide, ?_⟩⟩
      refine kk dx [(gg, .str cc), (ff, v)] _ hn (by rw [upd_ne (Ne.symm ne)]; exact upd_same) upd_same (fun c h1 h2 => by rw [upd_ne h2, upd_ne h1, upd_ne h2]) fun f z hl => ?_
      by_cases e : (f == gg) = true
      · have e' : f = gg := by simpa using e
        subst e'
        simp at hl
        subst hl
        exact ⟨.str cc, by simp, rfl⟩
      · have e1 : (f == gg) = false := by simpa using e
        simp only [List.lookup, e1] at hl ⊢
        by_cases e2 : (f == ff) = true
        · rw [e2] at hl ⊢
          cases hl
          exact ⟨v, rfl, hv⟩
        · have e3 : (f == ff) = false := by simpa using e2
          rw [e3] at hl; cases hl
theorem fnE1 {qual gg cc : Str} {st : Stmt} {f C : Addr} {fd : FuncData} {k : Nat} {p4 p5 p6 q2 : Pos} {j : Nat} (F : Fun K "__init__" qual st f fd) (S : FnScope ["self"] ["self"] (defScope st)) (T : OexC K C) (n2 : PySem.W.findIn K (.ref C) gg = some none)
    (hst : defBody st = [.Assign [.Attribute (.Name "self" p4) gg p5] (.Constant (.str cc) j p6) q2]) (v0 : Vis (defScope st) "self")
    (hs2 : ∀ (cdv : Value) (A : Around) (outer : List Env) (s : Shared) (H : Hp) (E : XK), swapsWith (.Constant (.str cc) j p6) (some (.Attribute (.Name "self" p4) gg p5)) q2.line (cxOf CX0 P w K mg base ["self"] qual (defScope st) f cdv A outer s H E).nox.env = pure false) :
    FnOk P w K mg base CX0 (k + 1) f fd ["self"] (spE K C (fE1 gg cc)) := by
  refine F.ok S (fun vs H Q E h => ?_) (fun cdv A outer s H vs Q E hr h => ?_)
  · obtain ⟨a, G, vs', ds, out, rfl, _, hds, hf, _⟩ := h
    match ds, hf with
    | [], _ => rw [List.length_cons, hds.length]; rfl
  · obtain ⟨a, G, vs', ds, out, rfl, ha, hds, hf, kk⟩ := h
    match ds, hf with
    | [], hf =>
      cases hf
      cases hds
      rw [hst]
      refine ⟨_, pss_one (ps_ost (pv 0 rfl v0) pe_str (hs2 cdv A outer s H E)), ?_⟩
      refine ⟨.ref a, rfl, a, C, rfl, T, n2, .inl ⟨ha, fun dx hn ne => ?_⟩⟩
      refine kk dx [(gg, .str cc)] _ hn upd_same (by rw [upd_ne ne]; exact upd_same) (fun c h1 h2 => by rw [upd_ne h1, upd_ne h2]) fun f z hl => ?_
      by_cases e : (f == gg) = true
      · have e' : f = gg := by simpa using e
        subst e'
        simp at hl
        subst hl
        exact ⟨.str cc, by simp, rfl⟩
      · have e1 : (f == gg) = false := by simpa using e
        simp only [List.lookup, e1] at hl
        cases hl
end
end DL
namespace DL
open PySem L2 PyProof.Rows
/-! ### zip of two texts -/
def ItzS (x y : Str) : It :=
  ⟨fun i _ => i < x.cps.size ∧ i < y.cps.size,
   fun i H v H' => ∃ (T : Addr) (c d : Nat), v = .ref T ∧ H T = none ∧ H' = upd H T (.tup [.str ⟨#[c]⟩, .str ⟨#[d]⟩]) ∧ x.cps[i]? = some c ∧ y.cps[i]? = some d,
   fun i _ => x.cps.size ≤ i ∨ y.cps.size ≤ i⟩
theorem strIter_obj {h : Heap} {it : Addr} {ty : String} {x : Str} {t : Tok} {i : Nat} (q : h.IsStrIter it ty x t i) : ∃ o, h.get? it = some o ∧ ∀ v, o.data ≠ .cell v := by
  obtain ⟨o, e, _, dd⟩ := q
  exact ⟨o, e, fun v z => by rw [dd] at z; cases z⟩
theorem strIter_keep {h h' : Heap} {it : Addr} {ty : String} {x : Str} {t : Tok} {i : Nat} (q : h.IsStrIter it ty x t i) (k : ∀ o, h.get? it = some o → h'.get? it = some o) : h'.IsStrIter it ty x t i := by
  obtain ⟨o, e, r⟩ := q
  exact ⟨o, k o e, r⟩
theorem five {z TI TO i1 i2 c : Addr} (h : c ∈ [z, TI, TO, i1, i2]) : c = z ∨ c = TI ∨ c = TO ∨ c = i1 ∨ c = i2 := by simpa using h
theorem turn_zipS {P : Program} {w : World} {K : PySem.W.Frag} {elts : List Expr} {kk : Nat} {tpos : Pos} {x y : Str} {tx ty : Tok} {z TI TO i1 i2 : Addr} (S : ZipSep2 z TI TO i1 i2 [i1] [i2]) :
    Turn P w K (.Tuple elts kk tpos) (ItzS x y) [z, TI, TO, i1, i2] z (fun i h => IsZip h z TI TO .none ∧ IsTupOf2 h TI (.ref i1) (.ref i2) ∧ (∃ u v, IsTupOf2 h TO u v) ∧
      h.IsStrIter i1 (strIterType x) x tx i ∧ h.IsStrIter i2 (strIterType y) y ty i ∧ i ≤ x.cps.size ∧ i ≤ y.cps.size) where
  mem := List.mem_cons_self
  obj := fun i h ⟨hz, hTI, ⟨u, v, hTO⟩, h1, h2, _⟩ c hc => by
    rcases five hc with rfl | rfl | rfl | rfl | rfl
    · exact ⟨_, hz, fun v q => nomatch q⟩
    · exact ⟨_, hTI, fun v q => nomatch q⟩
    · exact ⟨_, hTO, fun v q => nomatch q⟩
    · exact strIter_obj h1
    · exact strIter_obj h2
  keep := fun i h h' ⟨hz, hTI, ⟨u, v, hTO⟩, h1, h2, l⟩ k =>
    ⟨k z (by simp) _ hz, k TI (by simp) _ hTI, ⟨u, v, k TO (by simp) _ hTO⟩, strIter_keep h1 fun o q => k i1 (by simp) o q, strIter_keep h2 fun o q => k i2 (by simp) o q, l⟩
  item := by
    intro X hP hw hK hc i pins s σ H E I hf ⟨hz, hTI, ⟨u0, v0, hTO⟩, h1, h2, l1, l2⟩ ⟨g1, g2⟩
    subst hP; subst hw; subst hK
    have zl : z < s.heap.objs.size := Heap.lt_size hz
    have hd0 : X.A.in1.handled = none := I.ok.hd hc
    refine wpAny_pyNext_zipD2_item S (Draws.text hd0 i1 x tx) (Draws.text hd0 i2 y ty) hz hTI hTO h1 h2 g1 g2 fun a1 a2 h' tk q1 q2 z' TO' k1 k2 hT hsz hk => ?_
    obtain ⟨c, t1, hcx, rfl⟩ := q1
    obtain ⟨d, t2, hdy, rfl⟩ := q2
    refine ⟨_, rfl, wpAny_letOwnedTupleGo_zip (s := { s with heap := h', toks := tk }) z' fun h'' z'' sb => ?_⟩
    have hT2 : IsTupOf2 h'' s.heap.objs.size (.str ⟨#[c]⟩ t1) (.str ⟨#[d]⟩ t2) := (sb.2 _ (Nat.ne_of_gt zl)).trans hT
    have new : ObjOk X.prog X.w (upd H s.heap.objs.size (.tup [.str ⟨#[c]⟩, .str ⟨#[d]⟩])) h'' s.heap.objs.size (.tup [.str ⟨#[c]⟩, .str ⟨#[d]⟩]) :=
      ⟨by show 2 ≤ sizeLine; rw [sizeLine_eq]; decide, [.str ⟨#[c]⟩ t1, .str ⟨#[d]⟩ t2], .cons ⟨_, rfl⟩ (.cons ⟨_, rfl⟩ .nil), ⟨_, hT2, rfl, _, rfl⟩⟩
    have off : ∀ {cc : Addr}, cc ∉ [z, TI, TO, i1, i2] → cc ≠ z ∧ cc ≠ TO ∧ cc ≠ i1 ∧ cc ≠ i2 := fun {cc} n => ⟨fun q => n (by simp [q]), fun q => n (by simp [q]), fun q => n (by simp [q]), fun q => n (by simp [q])⟩
    have I1 : Inv X pins σ (upd H s.heap.objs.size (.tup [.str ⟨#[c]⟩, .str ⟨#[d]⟩])) { s with heap := h'', toks := tk } :=
      I.turnedNew (ch := [z, TI, TO, i1, i2]) (fun cc o hb q => by
        obtain ⟨n1, n2, n3, n4⟩ := off hb
        exact (sb.2 cc n1).trans (hk cc o n1 n2 n3 n4 q)) hf (Nat.le_refl _) new
    refine ⟨.ref s.heap.objs.size, _, I1, rfl, ⟨_, c, d, rfl, I.hok.fresh (Nat.le_refl _), rfl, hcx, hdy⟩, ⟨z'', ?_, ⟨.str ⟨#[c]⟩ t1, .str ⟨#[d]⟩ t2, ?_⟩, ?_, ?_, g1, g2⟩, fun cc hcm => ?_⟩
    · exact (sb.2 _ S.TIz).trans (hk _ _ S.TIz S.TITO S.TIi1 S.TIi2 hTI)
    · exact (sb.2 _ S.TOz).trans TO'
    · exact strIter_keep k1 fun o q => (sb.2 _ S.zi1.symm).trans q
    · exact strIter_keep k2 fun o q => (sb.2 _ S.zi2.symm).trans q
    · have lt : cc < s.heap.objs.size := by
        rcases five hcm with rfl | rfl | rfl | rfl | rfl
        · exact zl
        · exact Heap.lt_size hTI
        · exact Heap.lt_size hTO
        · obtain ⟨_, e1, _⟩ := h1; exact Heap.lt_size e1
        · obtain ⟨_, e1, _⟩ := h2; exact Heap.lt_size e1
      rw [upd_ne (Nat.ne_of_lt lt)]
      exact (hf cc hcm).1
  done := by
    intro X hP hw hK hc i pins s σ H E I hf ⟨hz, hTI, ⟨u0, v0, hTO⟩, h1, h2, l1, l2⟩ hg
    subst hP; subst hw; subst hK
    have hd0 : X.A.in1.handled = none := I.ok.hd hc
    refine wpAny_pyNext_zipD2_end S (Draws.text hd0 i1 x tx) (Draws.text hd0 i2 y ty) hz hTI hTO h1 h2 l1 l2 (hg.imp (fun q => Nat.le_antisymm l1 q) fun q => Nat.le_antisymm l2 q) fun h' tk hk => ⟨rfl, I.turnedL (t' := tk) (ch := [z, TI, TO, i1, i2]) (fun cc o hb q => ?_) hf⟩
    exact hk cc o (fun e => hb (by simp [e])) (fun e => hb (by simp [e])) (fun e => hb (by simp [e])) (fun e => hb (by simp [e])) q
  self := fun A i s Q E st h => wpAny_pyIter_zip st.1 h
def iZipS (ta : TA) : TI := fun σ H R => ta σ H fun vs H1 => ∃ x y, vs = [.str x, .str y] ∧ R (ItzS x y) H1
theorem sep_new (n : Nat) : ZipSep2 (n + 4) (n + 2) (n + 3) n (n + 1) [n] [n + 1] := by
  constructor <;> simp <;> omega
section
variable {X : Cx} {b : Bg} {K : PySem.W.Frag}
theorem pi_zipS {e e2 : Expr} {ta : TA} {p pos tpos : Pos} {elts : List Expr} {kk : Nat} (hg : Gl X "zip") (hm : X.mg "zip" = none) (ha : PA X [e, e2] ta) (hs : starEach [e, e2] X.env = (false, eval e X.env) :: starEach [e2] X.env := by rfl) (hpl : (backTo pos (starEach [e2] X.env)).any (·.1) = false := by rfl) :
    PI X (.Tuple elts kk tpos) (.Call (.Name "zip" p) [e, e2] [] pos) (iZipS ta) := by
  constructor
  intro pins s σ H R I h
  refine Call_ (ld_blt I hg hm boot_zip (callWith_type1 (thn (ha.run pos pins s σ H _ I h) fun us s1 hx => ?_) hs hpl))
  obtain ⟨vs, H1, I1, r1, x, y, ex, q⟩ := hx
  subst ex
  obtain _ | ⟨r, rr⟩ := r1
  obtain _ | ⟨r', rr⟩ := rr
  cases rr
  obtain ⟨tx, rfl⟩ := r
  obtain ⟨ty, rfl⟩ := r'
  have new : ∀ c, c ∈ [s1.heap.objs.size + 4, s1.heap.objs.size + 2, s1.heap.objs.size + 3, s1.heap.objs.size, s1.heap.objs.size + 1] → FpOk X pins H1 c := fun c hc => by
    have le : s1.heap.objs.size ≤ c := by
      rcases five hc with rfl | rfl | rfl | rfl | rfl <;> omega
    exact I1.fpOk le (I1.hok.fresh le)
  refine zip_begins2 (begins_text x tx) (begins_text y ty) trivial trivial fun h' hz hTI hTO g1 g2 hsz hk => wpAny_pyIter_zip hz ?_
  exact ⟨s1.heap.objs.size + 4, _, _, _, H1, rfl, I1.kept (t' := s1.toks) hk, turn_zipS (tx := tx) (ty := ty) (sep_new s1.heap.objs.size), ⟨hz, hTI, ⟨_, _, hTO⟩, ⟨_, g1, rfl, rfl⟩, ⟨_, g2, rfl, rfl⟩, Nat.zero_le _, Nat.zero_le _⟩, new, q⟩
/-- the signs of two texts, side by side -/
def zipsS (x y : Str) : List D := List.zipWith (fun c d => D.tup [.str ⟨#[c]⟩, .str ⟨#[d]⟩]) x.cps.toList y.cps.toList
def zipSD (P : List D → Prop) : List D → Prop
  | [.str x, .str y] => P (zipsS x y)
  | _ => False
def uZipS (ua : DA) : DI := fun e P => ua e (zipSD P)
theorem jok_zipS {L : Lk} {G1 : Hp} {x y : Str} : JOk K b L G1 (ItzS x y) (zipsS x y) := fun G H sub ex _ i => by
  have hl : (zipsS x y).length = min x.cps.size y.cps.size := by unfold zipsS; simp
  refine ⟨fun q hq => ?_, fun hi => ?_⟩
  · have lt := get_lt hq
    rw [hl] at lt
    refine ⟨⟨by omega, by omega⟩, fun w H' ⟨T, c, d, e1, hT, e2, hc, hd⟩ => ?_⟩
    subst e1; subst e2
    have s := sub_upd (o := .tup [.str ⟨#[c]⟩, .str ⟨#[d]⟩]) (ex.none hT)
    have eq : q = .tup [.str ⟨#[c]⟩, .str ⟨#[d]⟩] := by
      unfold zipsS at hq
      rw [List.getElem?_zipWith] at hq
      have e1 : x.cps.toList[i]? = some c := by rw [← hc]; simp
      have e2 : y.cps.toList[i]? = some d := by rw [← hd]; simp
      rw [e1, e2] at hq
      exact (Option.some.inj hq).symm
    subst eq
    exact ⟨_, Stp.laid ex hT, T, _, rfl, .inl upd_same, _, _, rfl, rfl, _, _, rfl, rfl, rfl⟩
  · rw [hl] at hi
    show x.cps.size ≤ i ∨ y.cps.size ≤ i
    omega
theorem di_zipS {a c : Expr} {ua : DA} {p pos tpos : Pos} {elts : List Expr} {kk : Nat} (hm : X.mg "zip" = none) (h : PDA X b [a, c] ua) (hg : Gl X "zip" := by rfl) (hs : starEach [a, c] X.env = (false, eval a X.env) :: starEach [c] X.env := by rfl) (hpl : (backTo pos (starEach [c] X.env)).any (·.1) = false := by rfl) :
    PDI X b (.Tuple elts kk tpos) (.Call (.Name "zip" p) [a, c] [] pos) (uZipS ua) := by
  obtain ⟨t, p, l⟩ := h
  refine ⟨_, pi_zipS hg hm p hs hpl, ?_⟩
  intro L G0 H0 G H σ e P Q g hu k
  refine l L G0 H0 G H σ e _ _ g hu fun vs ds G1 H1 s1 hr q => ?_
  unfold zipSD at q
  split at q
  · obtain ⟨v, r, rfl, hv, v2, r2, rfl, hv2, rfl⟩ := hr
    cases hv; cases hv2
    exact ⟨_, _, rfl, k _ _ G1 H1 s1 jok_zipS q⟩
  · exact q.elim
end
end DL
/-! ### set comprehensions, over any way to tell what a set holds -/
namespace SM
open PySem PySem.Spec PyProof.Rows L2
structure Acc (P : Program) (w : World) where
  T : Type
  o : Addr → T → HO
  t0 : T
  may : T → V → Hp → T → Prop
  fresh : ∀ (H : Hp) (h : Heap), ObjOk P w H (h.push (e0 w)) h.objs.size (o h.objs.size t0)
  add : ∀ {X : Cx} {pins : List (Addr × Obj)} {σ : L2.St} {H : Hp} {s : Shared} {E : Value → Shared → Prop} {D : Addr} {t t' : T} {y : V} {u : Value} {Q : Value → Shared → Prop}, X.prog = P → X.w = w →
    Inv X pins σ H s → H D = some (o D t) → may t y H t' → RelV y u → (∀ s', Inv X pins σ (upd H D (o D t')) s' → Q .none s') → wpAny (model X.prog X.w) X.A (call (.builtin "set.add") [.ref D, u]) Q E s
section
variable {X : Cx}
/-- one turn, and all turns -/
def accTurn (S : Acc X.prog X.w) (g : TG) (tt : TT) (te : TE) (vs : List Nat) (σ : L2.St) (D : Addr) (N : Hp → Prop) (x : V) (H' : Hp) : Prop :=
  g x (wipe σ vs) H' fun σ2 H2 => wipe σ2 vs = wipe σ vs ∧ tt σ2 H2 fun c H3 => if c = true then te σ2 H3 fun y H4 => ∃ t t', H4 D = some (S.o D t) ∧ S.may t y H4 t' ∧ N (upd H4 D (S.o D t')) else N H3
def tAcc (S : Acc X.prog X.w) (wi : TI) (g : TG) (tt : TT) (te : TE) (vs : List Nat) : TE := fun σ H Q => wi σ H fun J H1 => ∀ D, H1 D = none → ∃ W : Nat → Nat → Hp → Prop, (∃ m, W 0 m (upd H1 D (S.o D S.t0))) ∧
  ∀ i m H, W i m H → (J.stop i H ∧ Q (.ref D) H) ∨ (J.go i H ∧ ∃ N : Hp → Prop, (∀ H', N H' → ∃ m', m' < m ∧ W (i + 1) m' H') ∧ ∀ x H', J.yld i H x H' → accTurn S g tt te vs σ D N x H')
theorem pe_acc (S : Acc X.prog X.w) {elt tg iter : Expr} {ifs : List Expr} {scope : Scope} {own : List (PySem.Str × Nat)} {pos : Pos} {wi : TI} {g : TG} {tt : TT} {te : TE} (calm : X.calm = true) (nd : X.N.Nodup) (pw : PI X tg iter wi) (bo : BlkOk X.N X.env.scope scope own)
    (pg : ∀ (s : Shared) (H : Hp) (C : Addr) (cl : List (PySem.Str × Addr)) (fp : List Addr), PG (X.blk s H scope (compEnvC scope cl C X.env) fp) tg g)
    (pt : ∀ (s : Shared) (H : Hp) (C : Addr) (cl : List (PySem.Str × Addr)) (fp : List Addr), PTs (X.blk s H scope (compEnvC scope cl C X.env) fp) ifs tt)
    (pe : ∀ (s : Shared) (H : Hp) (C : Addr) (cl : List (PySem.Str × Addr)) (fp : List Addr), PE (X.blk s H scope (compEnvC scope cl C X.env) fp) elt te)
    (fold : ∀ x, foldedSetIterable iter X.env x = pure x := by intro _; rfl) :
    PE X (.SetComp elt [⟨tg, iter, ifs, 0⟩] scope pos) (tAcc S wi g tt te (own.map (·.2))) := by
  constructor
  intro pins s σ H Q I hyp
  rw [PpSet.eval_SetComp]
  have closed : ∀ y ∈ scope.names, y.2 = .free → ∃ c, X.env.cells.lookup y.1 = some c := by
    intro y hy e
    rcases bo.free y hy e with k | k <;> exact I.ok.has _ (by first | exact .inl k | exact .inr k)
  refine wpAny_comprehension_free rfl fold (closure_ok closed) bo.kind (fun y hy e => by rw [bo.uniq y hy, e]) (thn (pw.run pins s σ H _ I hyp) fun xv sa ha => thn ha fun itv sb hb => ?_)
  obtain ⟨it, fp, st, J, Ha, rfl, Ia, T, st0, free0, q⟩ := hb
  refine PpSet.newSet_ok (newEnv_comp ?_)
  -- the set
  obtain ⟨D, eD⟩ : ∃ D, sb.heap.objs.size = D := ⟨_, rfl⟩
  have Dn : Ha D = none := Ia.hok.fresh (Nat.le_of_eq eD)
  obtain ⟨W, ⟨m0, w0⟩, turns⟩ := q D Dn
  have Hb0 : Inv X pins σ (upd Ha D (S.o D S.t0)) { sb with heap := sb.heap.push (e0 X.w) } := by
    refine Ia.laid (t' := sb.toks) (fun c u e => Heap.get?_push_of_some _ e) (Nat.le_of_eq eD) ?_
    subst eD
    exact S.fresh _ _
  have old : ∀ c ∈ fp, c < sb.heap.objs.size := fun c hc => by
    obtain ⟨u, e, _⟩ := T.obj _ _ st0 c hc
    exact Heap.lt_size e
  obtain ⟨sc, esc⟩ : ∃ sc : Shared, { sb with heap := sb.heap.push (e0 X.w) } = sc := ⟨_, rfl⟩
  have hsc : sc.heap = sb.heap.push (e0 X.w) := by rw [← esc]
  rw [esc] at Hb0
  have frees : ∀ c ∈ fp, FpOk X pins (upd Ha D (S.o D S.t0)) c ∧ c < sc.heap.objs.size := fun c hc => by
    have lt := old c hc
    constructor
    · obtain ⟨f1, f2⟩ := free0 c hc
      exact ⟨by rw [upd_ne (by rw [← eD]; exact Nat.ne_of_lt lt)]; exact f1, f2⟩
    · rw [hsc, Heap.size_push]; exact Nat.lt_succ_of_lt lt
  have stc : st 0 sc.heap := T.keep _ _ _ st0 fun c _ u e => by rw [hsc]; exact Heap.get?_push_of_some _ e
  have Id := block_start Hb0 bo nd frees
  have kg := pg sc (upd Ha D (S.o D S.t0)) sc.heap.objs.size (cellsFrom (sc.heap.objs.size + 1) scope.names (cloFrom X.env.cells scope.names [])) fp
  have kt := pt sc (upd Ha D (S.o D S.t0)) sc.heap.objs.size (cellsFrom (sc.heap.objs.size + 1) scope.names (cloFrom X.env.cells scope.names [])) fp
  have ke := pe sc (upd Ha D (S.o D S.t0)) sc.heap.objs.size (cellsFrom (sc.heap.objs.size + 1) scope.names (cloFrom X.env.cells scope.names [])) fp
  -- what is asked when all turns are done
  have out : ∀ s' m H', Inv X pins σ H' s' → Q (.ref D) H' → s'.heap.Ns sc.heap.objs.size m → FpOk X pins H' sc.heap.objs.size → compPost (model X.prog X.w) X.A X.xe none (fun v s => ∃ v0 H', Inv X pins σ H' s ∧ RelV v0 v ∧ Q v0 H') (.ref D) sc.heap.objs.size (.ok .next) s' := fun s' m H' I' hq hn f => by
    refine ⟨m, hn, fun h'' same => ?_⟩
    obtain ⟨f0, f1, f2, f3, f4, f5⟩ := f
    exact ⟨.ref D, H', I'.turned (t' := s'.toks) (fun c u hc e => (same.2 c hc).trans e) f0 f1 f3 f4 f5, rfl, hq⟩
  rw [show ({ sb with heap := sb.heap.push { cls := .type "set", dict := none, data := .set #[] 0 (.fresh 0 0 (!X.w.params.followText "set-order")) } } : Shared) = sc from esc]
  rw [show sb.heap.objs.size = D from eD]
  show codeAny _ _ (.compStart (.SetComp elt [⟨tg, iter, ifs, 0⟩] scope pos) 0 (.ref it) (.ref D) (compEnvC scope (cellsFrom (sc.heap.objs.size + 1) scope.names (cloFrom X.env.cells scope.names [])) sc.heap.objs.size X.env)) (compPost (model X.prog X.w) X.A X.xe none _ (.ref D) sc.heap.objs.size) { sc with heap := pushCells (sc.heap.push { cls := .type "dict", data := .dict #[] }) scope.names }
  have none0 : ∀ c ∈ fp, (upd Ha D (S.o D S.t0)) c = none := fun c hc => (frees c hc).1.1
  generalize ece : compEnvC scope (cellsFrom (sc.heap.objs.size + 1) scope.names (cloFrom X.env.cells scope.names [])) sc.heap.objs.size X.env = ce at Id kg kt ke ⊢
  have locs : ce.locals = sc.heap.objs.size := by rw [← ece]; rfl
  generalize upd Ha D (S.o D S.t0) = Hb at Hb0 Id kg kt ke w0 none0 frees
  obtain ⟨sd, esd⟩ : ∃ sd : Shared, { sc with heap := pushCells (sc.heap.push { cls := .type "dict", data := .dict #[] }) scope.names } = sd := ⟨_, rfl⟩
  have std : st 0 sd.heap := T.keep _ _ _ stc fun c _ u e => by rw [← esd]; exact pushCells_keeps _ _ _ _ (Heap.get?_push_of_some _ e)
  rw [esd] at Id ⊢
  have rest : ∀ {σ' : L2.St} {H' : Hp} {s' : Shared}, Inv (X.blk sc Hb scope ce fp) [] σ' H' s' → (∀ c ∈ fp, H' c = none) → ∀ c ∈ fp, FpOk (X.blk sc Hb scope ce fp) [] H' c := fun {σ' H' s'} I' hn c hc =>
    ⟨hn c hc, (I'.ok.exf c hc).1, I'.ok.exfs c hc, .inl hc, fun x d e => (I'.ok.exf c hc).2 x d e, fun p hp => by simp [Cx.blk] at hp⟩
  have all : codeAny (model X.prog X.w) X.A (.compLoop (.SetComp elt [⟨tg, iter, ifs, 0⟩] scope pos) 0 (.ref it) (.ref D) ce) (compPost (model X.prog X.w) X.A X.xe none (fun v s => ∃ v0 H', Inv X pins σ H' s ∧ RelV v0 v ∧ Q v0 H') (.ref D) sc.heap.objs.size) sd := by
    refine PpSet.compLoopS_any (fun n s' => ∃ i H', Inv (X.blk sc Hb scope ce fp) [] (wipe σ (own.map (·.2))) H' s' ∧ st i s'.heap ∧ (∀ c ∈ fp, H' c = none) ∧ W i n H') ?_ m0 ⟨0, Hb, Id, std, none0, w0⟩
    rintro n se ⟨i, He, Ie, ste, none1, we⟩
    rcases turns i n He we with ⟨over, fine⟩ | ⟨on, N, less, turn⟩
    · refine thnF (T.done (X.blk sc Hb scope ce fp) rfl rfl rfl calm i [] se _ He (fun _ _ => False) Ie (rest Ie none1) ste over) fun r sf ⟨er, If⟩ => ?_
      cases er
      have Ig : Inv X pins σ He sf := Hb0.call' (ch := fp) If.os If.base If.hok If.bare fun c hc => by
        obtain ⟨⟨_, z1, _, z3, z4, z5⟩, _⟩ := frees c hc
        exact ⟨z3, z1, z4, z5⟩
      have nl : He sc.heap.objs.size = none := by rw [← locs]; exact If.free
      obtain ⟨m, hn, _⟩ := If.loc
      have hn : sf.heap.Ns ce.locals m := hn
      rw [locs] at hn
      exact out sf m He Ig fine hn (Hb0.fpOk (Nat.le_refl _) nl)
    · refine thnF (T.item (X.blk sc Hb scope ce fp) rfl rfl rfl calm i [] se _ He (fun _ _ => False) Ie (rest Ie none1) ste on) fun r sf ⟨u, er, hf⟩ => ?_
      subst er
      refine thnF hf fun _ sg ⟨x, Hg, Ig, rg, yg, stg, none2⟩ => ?_
      have Ip := Ig.pinned (rest Ig none2) (T.obj _ _ stg)
      refine thnF (kg.run _ sg _ Hg x u _ Ip rg (turn x Hg yg)) fun _ sh ⟨σh, Hh, Ih, same, qh⟩ => ?_
      refine thnF (kt.run _ sh σh Hh _ Ih qh) fun c si ⟨Hi, Ii, qi⟩ => ?_
      have again : ∀ {s' : Shared} {H' : Hp}, Inv (X.blk sc Hb scope ce fp) ([] ++ pinsAt fp sg.heap) σh H' s' → N H' → ∃ m, m < n ∧ ∃ i H', Inv (X.blk sc Hb scope ce fp) [] (wipe σ (own.map (·.2))) H' s' ∧ st i s'.heap ∧ (∀ c ∈ fp, H' c = none) ∧ W i m H' := fun {s' H'} I' nx => by
        obtain ⟨m', lt, w'⟩ := less H' nx
        have pin : ∀ c ∈ fp, ∀ o, sg.heap.get? c = some o → s'.heap.get? c = some o ∧ H' c = none := fun c hc o e => by
          have z := I'.pin (c, o) (List.mem_append_right _ (List.mem_append_right _ (mem_pinsAt hc e)))
          exact ⟨z.1, z.2.1⟩
        refine ⟨m', lt, i + 1, H', (I'.unpinned (pins := [])).weak (by rw [← same, wipe_length]) (fun j v e => ?_), T.keep _ _ _ stg fun c hc o e => (pin c hc o e).1, fun c hc => ?_, w'⟩
        · exact (wipe_some (by rw [same]; exact e)).1
        · obtain ⟨o, e, _⟩ := T.obj _ _ stg c hc
          exact (pin c hc o e).2
      cases c with
      | true =>
        simp only [if_true] at qi ⊢
        refine thnF (ke.run _ si σh Hi _ Ii qi) fun z sj ⟨y, Hj, Ij, rj, t, t', eDj, mayj, nx⟩ => ?_
        exact S.add (X := X.blk sc Hb scope ce fp) rfl rfl Ij eDj mayj rj fun sk Ik => again Ik nx
      | false =>
        simp only [Bool.false_eq_true, if_false] at qi ⊢
        exact again Ii qi
  exact PpSet.codeAny_compStart_set all (T.self X.A 0 _ _ _ std all)
end
end SM
namespace DL
open PySem L2 PyProof.Rows
/-! ### dicts of the module: text keys, keys that are tuples of numbers -/
structure KdS (K : PySem.W.Frag) (w : World) (mg : Str → Option Value) (x : Str) (kvs : List (Str × D)) : Prop where
  ex : ∃ d, mg x = some (.ref d) ∧ ∀ z v, (z, v) ∈ kvs → ∃ v0, KDct K w d z v0 ∧ ∀ G, Rep K G v v0
abbrev KeyW (P : Program) (w : World) := tupleKind (mixKind P w)
structure KdT (P : Program) (K : PySem.W.Frag) (w : World) (mg : Str → Option Value) (x : Str) (kvs : List (List Int × D)) : Prop where
  ex : ∃ (d : Addr) (od : Option Addr) (es : Array DictEntry) (n : Nat) (ks : List (List Key × Addr × Value)), mg x = some (.ref d) ∧ K.lookup d = some ⟨.type "dict", none, .dict es n, #[]⟩ ∧ es.toList = ks.map (entryOfKey (KeyW P w)) ∧ (ks.map (·.1)).Nodup ∧
    (∀ p ∈ ks, ∃ o its n, K.lookup p.2.1 = some o ∧ o.cls = .type "tuple" ∧ o.data = .seq its n ∧ Vals (p.1.map kV) its.toList) ∧
    ∀ k v, (k, v) ∈ kvs → ∃ p v0, atKey ks (k.map Sum.inl) = some p ∧ RelV v0 p.2 ∧ ∀ G, Rep K G v v0
section
variable {X : Cx} {b : Bg} {K : PySem.W.Frag}
def uKdS (kvs : List (Str × D)) (u : DE) : DE := fun e P => u e fun r => ∃ z v, r.look = .str z ∧ (z, v) ∈ kvs ∧ P (.sh v)
theorem d_kdS {x : Str} {kvs : List (Str × D)} {i : Expr} {u : DE} {p pos : Pos} (h : KdS X.K X.w X.mg x kvs) (hi : PD X b i u) (hg : Gl X x := by rfl) (hd : (x == ("__debug__" : Str)) = false := by decide) (hs : PlainIx i := by exact fun _ _ => rfl) :
    PD X b (.Subscript (.Name x p) i pos) (uKdS kvs u) := by
  obtain ⟨d, hm, hk⟩ := h
  obtain ⟨t, pi, l⟩ := hi
  refine ⟨_, pe_ix ix_kdict (pe_glob (v := .ref d) hg hm rfl hd) pi hs, ?_⟩
  intro L G0 H0 G H σ e P Q g hu k
  show t σ H _
  refine l L G0 H0 G H σ e _ _ g hu fun v r G1 H1 s1 hr q => ?_
  obtain ⟨z, dv, e1, e2, hp⟩ := q
  have t1 := hr.top (g.step s1)
  rw [e1] at t1
  obtain ⟨v0, k1, k2⟩ := hk z dv e2
  exact ⟨d, z, v0, rfl, t1, k1, k v0 (.sh dv) G1 H1 s1 (k2 G1) hp⟩
/-- d[k] for such a dict, k a tuple -/
def rIxKT (P : Program) (K : PySem.W.Frag) (w : World) (d : Addr) (ks : List (List Key × Addr × Value)) : R2 := fun x y H Q => ∃ (a : Addr) (k : List Key) (p : Addr × Value) (v0 : V), x = .ref d ∧ y = .ref a ∧ SqT K H a (k.map kV) ∧ atKey ks k = some p ∧ RelV v0 p.2 ∧ Q v0 H
theorem key_K {P : Program} {w : World} {h : Heap} {a : Addr} {ks : List Key} {o : Obj} {its : Array Value} {n : Nat} (h1 : h.get? a = some o) (h2 : o.cls = .type "tuple") (h3 : o.data = .seq its n) (r : Vals (ks.map kV) its.toList) : (KeyW P w).is h ks a :=
  ⟨o, its, n, h1, h2, h3, by simpa using items_are r⟩
theorem ix_kdT {d : Addr} {es : Array DictEntry} {n : Nat} {ks : List (List Key × Addr × Value)} (hu : X.A.units + 1 < cLine) (hl : X.K.lookup d = some ⟨.type "dict", none, .dict es n, #[]⟩) (he : es.toList = ks.map (entryOfKey (KeyW X.prog X.w))) (nd : (ks.map (·.1)).Nodup)
    (hi : ∀ p ∈ ks, ∃ o its n, X.K.lookup p.2.1 = some o ∧ o.cls = .type "tuple" ∧ o.data = .seq its n ∧ Vals (p.1.map kV) its.toList) : IxR X (rIxKT X.prog X.K X.w d ks) := by
  intro value slice pins s σ H x y v u Q I rx ry h hs
  obtain ⟨a, k, p, v0, rfl, rfl, hq, hp, hr, q⟩ := h
  obtain rfl : v = Value.ref d := rx
  obtain rfl : u = Value.ref a := ry
  have dd : s.heap.DictOfH (KeyW X.prog X.w) d ks := ⟨_, es, n, I.kIn _ _ hl, ⟨rfl, rfl, rfl⟩, rfl, he, fun x hx => by
    obtain ⟨o, its, m, h1, h2, h3, h4⟩ := hi x hx
    exact key_K (I.kIn _ _ h1) h2 h3 h4, nd⟩
  have hk : (KeyW X.prog X.w).is s.heap k a := by
    obtain ⟨its, rv, ⟨o, h1, h2, m, h3⟩, _⟩ := I.tuple hq
    exact key_K h1 h2 h3 (by simpa using rv)
  have ty : s.TypeIs (.ref d) "dict" := ⟨_, I.kIn _ _ hl, rfl⟩
  exact tail_any ty slot_dict_getitem.lookup (wpAny_getItem_heap (tupleKind_room_in1 hu) hk dd hp ⟨v0, H, I.tok _, hr, q⟩) hs
def uKdT (kvs : List (List Int × D)) (u : DE) : DE := fun e P => u e (R.keep fun d => ∃ k v, d = .tup (k.map D.int) ∧ (k, v) ∈ kvs ∧ P (.sh v))
theorem repL_ks {G : Hp} : ∀ {k : List Int} {vs : List V}, RepL K G (k.map D.int) vs → vs = k.map V.int
  | [], _, h => h
  | i :: k, _, ⟨v, r, e, h1, h2⟩ => by rw [e, show v = .int i from h1, repL_ks h2]; rfl
theorem d_kdT {x : Str} {kvs : List (List Int × D)} {i : Expr} {u : DE} {p pos : Pos} (hu : X.A.units + 1 < cLine) (h : KdT X.prog X.K X.w X.mg x kvs) (hi : PD X b i u) (hg : Gl X x := by rfl) (hd : (x == ("__debug__" : Str)) = false := by decide) (hs : PlainIx i := by exact fun _ _ => rfl) :
    PD X b (.Subscript (.Name x p) i pos) (uKdT kvs u) := by
  obtain ⟨d, od, es, n, ks, hm, hl, he, nd, hk, hv⟩ := h
  obtain ⟨t, pi, l⟩ := hi
  refine ⟨_, pe_ix (ix_kdT hu hl he nd hk) (pe_glob (v := .ref d) hg hm rfl hd) pi hs, ?_⟩
  intro L G0 H0 G H σ e P Q g huu k
  show t σ H _
  refine l L G0 H0 G H σ e _ _ g huu fun v r G1 H1 s1 hr q => ?_
  obtain ⟨dd, G2, s2, hd2, q⟩ := hr.freeze s1 q
  obtain ⟨kk, dv, rfl, e2, hp⟩ := q
  obtain ⟨a, vs, rfl, ha, hrl⟩ := hd2
  obtain rfl := repL_ks hrl
  obtain ⟨pr, v0, k1, k2, k3⟩ := hv kk dv e2
  have sq : SqT X.K H1 a ((kk.map Sum.inl).map kV) := by
    rw [List.map_map]
    exact ex_tup s2.ex ha
  exact ⟨a, kk.map Sum.inl, pr, v0, rfl, rfl, sq, k1, k2, k v0 (.sh dv) G2 H1 s2 (k3 G2) hp⟩
end
theorem kdS_mk {K : PySem.W.Frag} {w : World} {mg : Str → Option Value} {x : Str} {kvs : List (Str × D)} {h : Heap} {d : Addr} {es : Array DictEntry} {n : Nat} (X : K.In h) (G : h.Ns mainGlobals mg) (a : PySem.W.nsIn K mainGlobals x = some (some (.ref d))) (l : K.lookup d = some ⟨.type "dict", none, .dict es n, #[]⟩) (k : PySem.W.KeysLit w.params es.toList)
    (q : ∀ z v, (z, v) ∈ kvs → ∃ u v0, PySem.W.nsIn K d z = some (some u) ∧ RelV v0 u ∧ ∀ G, Rep K G v v0) : KdS K w mg x kvs :=
  ⟨d, PySem.W.mg_of X G a, fun z v m => by
    obtain ⟨u, v0, h1, h2, h3⟩ := q z v m
    exact ⟨v0, ⟨es, n, u, l, k, h1, h2⟩, h3⟩⟩
/-- a written tuple of numbers -/
theorem rep_tupK {K : PySem.W.Frag} {a : Addr} {ks : List Int} {od : Option Addr} {its : Array Value} {n : Nat} {sl : Array (Option Value)} (l : K.lookup a = some ⟨.type "tuple", od, .seq its n, sl⟩) (h : its.size ≤ sizeLine) (r : Vals (ks.map V.int) its.toList) (G : Hp) : Rep K G (.tup (ks.map D.int)) (.ref a) := by
  refine ⟨a, ks.map V.int, rfl, .inr ⟨_, its, n, l, rfl, rfl, h, r⟩, ?_⟩
  clear r h l
  induction ks with
  | nil => rfl
  | cons i ks ih => exact ⟨_, _, rfl, rfl, ih⟩
theorem kdT_mk {P : Program} {K : PySem.W.Frag} {w : World} {mg : Str → Option Value} {x : Str} {kvs : List (List Int × D)} {h : Heap} {d : Addr} {es : Array DictEntry} {n : Nat} (ks : List (List Int × Addr × Value)) (X : K.In h) (G : h.Ns mainGlobals mg) (a : PySem.W.nsIn K mainGlobals x = some (some (.ref d))) (l : K.lookup d = some ⟨.type "dict", none, .dict es n, #[]⟩)
    (he : es.toList = ks.map fun p => entryOfKey (KeyW P w) (p.1.map Sum.inl, p.2.1, p.2.2)) (nd : (ks.map (·.1)).Nodup)
    (hk : ∀ p ∈ ks, ∃ od its n sl, K.lookup p.2.1 = some ⟨.type "tuple", od, .seq its n, sl⟩ ∧ Vals (p.1.map V.int) its.toList)
    (hv : ∀ k v, (k, v) ∈ kvs → ∃ q v0, (k, q) ∈ ks ∧ RelV v0 q.2 ∧ ∀ G, Rep K G v v0) : KdT P K w mg x kvs := by
  have inj : ∀ {k k2 : List Int}, k.map (Sum.inl : Int → Key) = k2.map Sum.inl → k = k2 := fun {k k2} e => by
    induction k generalizing k2 with
    | nil => cases k2 with | nil => rfl | cons _ _ => cases e
    | cons i k ih => cases k2 with
      | nil => cases e
      | cons j k2 => rw [List.map_cons, List.map_cons] at e; injection e with e1 e2; injection e1 with e1; rw [e1, ih e2]
  refine ⟨d, none, es, n, ks.map fun p => (p.1.map Sum.inl, p.2.1, p.2.2), PySem.W.mg_of X G a, l, ?_, ?_, ?_, ?_⟩
  · rw [he, List.map_map]; rfl
  · rw [List.map_map]
    show (ks.map fun p => p.1.map (Sum.inl : Int → Key)).Nodup
    rw [show (ks.map fun p => p.1.map (Sum.inl : Int → Key)) = (ks.map (·.1)).map (List.map Sum.inl) by rw [List.map_map]; rfl]
    rw [List.nodup_iff_pairwise_ne, List.pairwise_map]
    exact (List.nodup_iff_pairwise_ne.mp nd).imp fun ne e => ne (inj e)
  · intro p hp
    obtain ⟨q, hq, rfl⟩ := List.mem_map.mp hp
    obtain ⟨od, its, n, sl, h1, h2⟩ := hk q hq
    exact ⟨_, its, n, h1, rfl, rfl, by rw [List.map_map]; exact h2⟩
  · intro k v m
    obtain ⟨q, v0, h1, h2, h3⟩ := hv k v m
    refine ⟨q, v0, ?_, h2, h3⟩
    clear hv he hk m h2 h3
    induction ks with
    | nil => cases h1
    | cons p ks ih =>
      rw [List.map_cons, List.nodup_cons] at nd
      unfold atKey
      rw [List.map_cons, List.find?_cons]
      rcases List.mem_cons.mp h1 with e | m
      · rw [← e]; simp
      · have ne : ¬ (p.1.map (Sum.inl : Int → Key) = k.map Sum.inl) := fun e => nd.1 (by rw [inj e]; exact List.mem_map.mpr ⟨_, m, rfl⟩)
        simp only [ne, decide_false]
        exact ih nd.2 m
end DL
/-! ### set comprehensions of numbers and texts; len of one -/
namespace SM
open PySem PySem.Spec PyProof.Rows L2
theorem add_key {P : Program} {w : World} {A : Around} {E : Value → Shared → Prop} {s : Shared} {a : Addr} {L : List Key} {k : Key} {v : Value} {Q : Value → Shared → Prop} (R : SetM w s.heap a L) (room : L.length + 1 < scanBound) (hk : keyIs k v = true)
    (q : ∀ h' tk, Heap.SameBut a s.heap h' → SetM w h' a (addL L k) → Q .none { s with heap := h', toks := tk }) : wpAny (model P w) A (call (.builtin "set.add") [.ref a, v]) Q E s := by
  have ty : s.TypeIs (.ref a) "set" := by
    obtain ⟨o, es, ep, t, ho, ex, _⟩ := R
    exact ⟨o, ho, ex.1⟩
  refine wpAny_call_entry F.slot_set_add ty F.entry_set_add ?_ (F.args_set_add_2 _ _)
  unfold Builtin.«set.add» Builtin.Frozenset.oneOther
  simp only [List.isEmpty_nil, bind_assoc]
  unfold Builtin.Frozenset.addrOf setAdd
  refine wpAny_bind (wpAny_pure ?_)
  try dsimp only
  refine wpAny_bind (wpAny_pure ?_)
  try dsimp only
  refine wpAny_bind (wpAny_holding (wpAny_bind ((mixKind P w).pyHash (k := k) hk ?_)))
  refine add_hashed (s := { s with toks := s.toks + 1 }) R room hk fun h' b sb r => ?_
  show wpAny _ _ (ret Value.none) _ _ _
  exact wpAny_pure ⟨_, rfl, q h' _ sb r⟩
theorem setMO_at {X : Cx} {pins : List (Addr × Obj)} {σ : L2.St} {H : Hp} {s : Shared} {a : Addr} {L : List Key} (I : Inv X pins σ H s) (h : H a = some (SetMO X.w a L)) : SetM X.w s.heap a L := (I.hok a _ h).1
noncomputable def accM (P : Program) (w : World) : Acc P w where
  T := List Key
  o := fun a ks => SetMO w a (dist ks)
  t0 := []
  may := fun ks y _ ks' => ∃ k, y = kV k ∧ ks' = ks ++ [k] ∧ ks.length + 1 < scanBound
  fresh := fun H h => setMO_ok (fresh_m (Heap.get?_push_size _ rfl))
  add := fun {X pins σ H s E D ks ks' y u Q} hp hw I hD hm ru hq => by
    subst hp; subst hw
    obtain ⟨k, rfl, rfl, hl⟩ := hm
    refine add_key (setMO_at I hD) (by have := len_dist ks; omega) (kV_is (P := X.prog) (w := X.w) ru) fun h' tk sb r => hq _ ?_
    rw [dist_snoc]
    have he : ∃ z, h'.get? D = some z := by
      obtain ⟨o, _, _, _, ho, _⟩ := id r
      exact ⟨o, ho⟩
    exact I.write (e := D) (t' := tk) (by rw [hD]; trivial) (.inl rfl) (fun c z hc hz => (sb.2 c hc).trans hz) he (setMO_ok r)
def rLenM (w : World) : List V → Hp → VK → Prop := fun xs H Q => ∃ (a : Addr) (L : List Key), xs = [.ref a] ∧ H a = some (SetMO w a L) ∧ Q (.int (L.length : Nat)) H
theorem cr_lenM {X : Cx} : CallR X (.builtin "len") (rLenM X.w) := by
  intro pins s σ H xs us Q I rs hyp
  obtain ⟨a, L, rfl, ha, q⟩ := hyp
  obtain ⟨o, es, ep, t, ho, ex, hd, p⟩ := setMO_at I ha
  rw [Vals.ref1 rs]
  have z := p.sz
  refine call_len_set ho ex hd p.fit (by unfold scanBound at z; omega) ⟨.int (L.length : Nat), H, I.tok _, ⟨_, by rw [p.len]⟩, q⟩
end SM
namespace DL
open PySem L2 PyProof.Rows
section
variable {X : Cx} {b : Bg} {K : PySem.W.Frag}
/-- what a set comprehension asks: it walks over few things, and all it finds are numbers and texts -/
def uFew (ui : DI) : DI := fun e P => ui e fun xs => xs.length + 1 < scanBound ∧ P xs
def uKey (ue : DE) : DE := fun e P => ue e fun r => ∃ k, r = .sh (kD k) ∧ P r
def uSc (ui : DI) (ug : DG) (ut : DT) (ue : DE) (vs : List Nat) (e : List Sl) (P : List Key → Prop) : Prop := uLc (uFew ui) ug ut (uKey ue) vs e fun r => ∃ ks, r = .ow (.lst (ks.map kD)) ∧ P ks
def LSet (K : PySem.W.Frag) (w : World) (b : Bg) (t : TE) (u : List Sl → (List Key → Prop) → Prop) : Prop := ∀ (L : Lk) (G0 H0 G H : Hp) (σ : L2.St) (e : List Sl) (P : List Key → Prop) (Q : VK), Good K b L G0 H0 G H σ e → u e P →
  (∀ D ks G' H', Stp b [] G H G' H' → H' D = some (SM.SetMO w D (SM.dist ks)) → G' D = none → P ks → Q (.ref D) H') → t σ H Q
theorem kD_inj {k k2 : Key} (h : kD k = kD k2) : k = k2 := by
  cases k <;> cases k2 <;> first | (cases h; rfl) | cases h
theorem kDs_inj : ∀ {a c : List Key}, a.map kD = c.map kD → a = c
  | [], [], _ => rfl
  | [], _ :: _, h => nomatch h
  | _ :: _, [], h => nomatch h
  | x :: a, y :: c, h => by
    injection h with h1 h2
    rw [kD_inj h1, kDs_inj h2]
theorem le_sc {P : Program} {w : World} {wi : TI} {ui : DI} {g : TG} {js : List Nat} {ug : DG} {tt : TT} {ut : DT} {te : TE} {ue : DE} {vs : List Nat} {XX : Cx} (ew : XX.w = w) (hi : LI K b wi ui) (hg : LG K b js g ug) (ht : LT K b tt ut) (he : LE K b te ue) (hj : ∀ j ∈ js, j ∈ vs) :
    LSet K w b (SM.tAcc (X := XX) (SM.accM XX.prog XX.w) wi g tt te vs) (uSc ui ug ut ue vs) := by
  subst ew
  intro L G0 H0 G H σ e P Q gd hu k
  refine hi L G0 H0 G H σ e _ _ gd hu fun J xs G1 H1 s1 hJ q => ?_
  obtain ⟨few, W, w0, hs, hd⟩ := q
  have g1 := gd.step s1
  intro D hD
  have nb : b.a ≠ some D := g1.nb hD
  refine ⟨fun i m H => m = xs.length - i ∧ i ≤ xs.length ∧ ∃ G ks, Stp b [] G1 H1 G H ∧ G D = none ∧ H D = some (SM.SetMO XX.w D (SM.dist ks)) ∧ ks.length ≤ i ∧ W i (ks.map kD),
    ⟨xs.length, by simp, Nat.zero_le _, G1, [], Stp.made g1.ex hD, g1.ex.none hD, upd_same, Nat.le_refl _, w0⟩, ?_⟩
  rintro i m Hh ⟨rfl, hi, G', ks, st, hgD, hHD, hkl, wi⟩
  have gg := (g1.step st).wipe vs
  obtain ⟨j1, j2⟩ := hJ G' Hh st.g st.ex gg.lk i
  by_cases c : i < xs.length
  · obtain ⟨go, y⟩ := j1 xs[i] (by simp [c])
    refine .inr ⟨go, fun H' => ∃ G ks, Stp b [] G1 H1 G H' ∧ G D = none ∧ H' D = some (SM.SetMO XX.w D (SM.dist ks)) ∧ ks.length ≤ i + 1 ∧ W (i + 1) (ks.map kD), fun H' q => ⟨xs.length - (i + 1), by omega, rfl, by omega, q⟩, fun v H2 hy => ?_⟩
    obtain ⟨G2, s2, hx⟩ := y v H2 hy
    have g2 := gg.step s2
    refine hg L G0 H0 G2 H2 _ _ _ v _ _ g2 hx (hs i xs[i] _ (by simp [c]) wi) fun σ3 e3 g3 w3 q3 => ⟨by rw [w3 vs hj, wipe_wipe], ?_⟩
    refine ht L G0 H0 G2 H2 σ3 e3 _ _ g3 q3 fun c3 G4 H4 s4 q4 => ?_
    have g4 := g3.step s4
    have s14 := (st.trans s2).trans s4
    have d2 : G2 D = none := s2.new D nb (by rw [hHD]; simp) hgD
    have h2 : H2 D = some (SM.SetMO XX.w D (SM.dist ks)) := s2.fr0 nb hHD
    have d4 : G4 D = none := s4.new D nb (by rw [h2]; simp) d2
    have h4 : H4 D = some (SM.SetMO XX.w D (SM.dist ks)) := s4.fr0 nb h2
    cases c3 with
    | false => exact ⟨G4, ks, s14, d4, h4, by omega, q4⟩
    | true =>
      refine he L G0 H0 G4 H4 σ3 e3 _ _ g4 q4 fun v5 r5 G5 H5 s5 hr5 q5 => ?_
      obtain ⟨kk, rfl, _, q6⟩ := q5
      have hv : v5 = kV kk := by cases kk <;> exact hr5
      have d5 : G5 D = none := s5.new D nb (by rw [h4]; simp) d4
      have h5 : H5 D = some (SM.SetMO XX.w D (SM.dist ks)) := s5.fr0 nb h4
      refine ⟨ks, ks ++ [kk], h5, ⟨kk, hv, rfl, by omega⟩, G5, ks ++ [kk], (s14.trans s5).mut nb hD d5, d5, upd_same, by simp; omega, ?_⟩
      rw [List.map_append]
      exact q6
  · have e1 : i = xs.length := by omega
    subst e1
    obtain ⟨ks2, e2, p2⟩ := hd _ wi
    have : ks2 = ks := by
      injection e2 with e2
      injection e2 with e2
      exact (kDs_inj e2).symm
    subst this
    exact .inl ⟨j2 (Nat.le_refl _), k D ks2 G' Hh (s1.trans st) hHD hgD p2⟩
/-- len({e for x in xs ..}) -/
noncomputable def uLenSc (ui : DI) (ug : DG) (ut : DT) (ue : DE) (vs : List Nat) : DE := fun e P => uSc ui ug ut ue vs e fun ks => P (.sh (.int ((SM.dist ks).length : Nat)))
theorem d_lenSc {elt tg iter : Expr} {ifs : List Expr} {scope : Scope} {own : List (Str × Nat)} {p pos cpos : Pos} {ui : DI} {js : List Nat} {ug : DG} {ut : DT} {ue : DE} (hm : X.mg "len" = none) (hN : X.N.Nodup) (ok : blkC X.N X.env.scope scope own = true) (hj : ∀ j ∈ js, j ∈ own.map (·.2)) (hi : PDI X b tg iter ui)
    (hg : Blk X scope fun Y => PDG Y b tg js ug) (ht : Blk X scope fun Y => PDTs Y b ifs ut) (he : Blk X scope fun Y => PD Y b elt ue) (hc : X.calm = true := by rfl) (fold : ∀ x, foldedSetIterable iter X.env x = pure x := by intro _; rfl) (hgl : Gl X "len" := by rfl)
    (hs : starEach [.SetComp elt [⟨tg, iter, ifs, 0⟩] scope pos] X.env = (false, eval (.SetComp elt [⟨tg, iter, ifs, 0⟩] scope pos) X.env) :: starEach [] X.env := by rfl) (hpl : (backTo cpos (starEach [] X.env)).any (·.1) = false := by rfl) :
    PD X b (.Call (.Name "len" p) [.SetComp elt [⟨tg, iter, ifs, 0⟩] scope pos] [] cpos) (uLenSc ui ug ut ue (own.map (·.2))) := by
  obtain ⟨wi, p1, l1⟩ := hi
  obtain ⟨g, p2, l2⟩ := blk_g hg
  obtain ⟨tt, p3, l3⟩ := blk_t ht
  obtain ⟨te, p4, l4⟩ := blk_e he
  refine ⟨_, pe_callB SM.cr_lenM hgl hm (by decide +kernel) (pa_cons (SM.pe_acc (SM.accM X.prog X.w) hc hN p1 (blkOk_by ok) p2 p3 p4 fold) pa_nil hs), ?_⟩
  intro L G0 H0 G H σ e P Q gd hu k
  show SM.tAcc (SM.accM X.prog X.w) wi g tt te (own.map (·.2)) σ H (fun v H1 => SM.rLenM X.w [v] H1 Q)
  refine le_sc (P := X.prog) (XX := X) rfl l1 l2 l3 l4 hj L G0 H0 G H σ e _ _ gd hu fun D ks G1 H1 s1 hD hg hp => ?_
  exact ⟨D, _, rfl, hD, k _ (.sh (.int _)) G1 H1 s1 rfl hp⟩
end
end DL
namespace DL
open PySem L2 PyProof.Rows
/-! ### how often a sign stands in a text -/
theorem occ_cnt (x : Str) (c : Nat) (m : Nat) : ∀ (n i : Nat) (st : Array Nat × Nat), i + n = x.length + 1 → st.2 ≤ i → st.1.size + n ≤ m →
    (forIn (List.range' i n) st (StrLaws.occBody x ⟨#[c]⟩ x.length m)).run.fst.size = st.1.size + (x.cps.toList.drop i).count c
  | 0, i, st, h, _, _ => by
    have : x.cps.toList.drop i = [] := List.drop_eq_nil_of_le (by simp [Str.length] at h ⊢; omega)
    rw [this]; rfl
  | n + 1, i, st, h, h2, h3 => by
    rw [List.range'_succ, List.forIn_cons]
    unfold StrLaws.occBody
    by_cases q : x.cps.toList[i]? = some c
    · have q2 := (StrLaws.subAt_one x c i).mpr q
      rw [if_pos ⟨⟨⟨by omega, h2⟩, q2.1⟩, q2.2⟩]
      have ih := occ_cnt x c m n (i + 1) (st.1.push i, i + (⟨#[c]⟩ : Str).length) (by omega) (Nat.le_refl _) (by simp; omega)
      have e : (x.cps.toList.drop i).count c = (x.cps.toList.drop (i + 1)).count c + 1 := by
        obtain ⟨lt, e⟩ := List.getElem?_eq_some_iff.mp q
        rw [List.drop_eq_getElem_cons lt, e, List.count_cons_self]
      rw [e]
      refine Eq.trans ih ?_
      simp; omega
    · rw [if_neg fun z => q ((StrLaws.subAt_one x c i).mp ⟨z.1.2, z.2⟩)]
      have ih := occ_cnt x c m n (i + 1) st (by omega) (by omega) (by omega)
      have e : (x.cps.toList.drop i).count c = (x.cps.toList.drop (i + 1)).count c := by
        by_cases lt : i < x.cps.toList.length
        · rw [List.drop_eq_getElem_cons lt, List.count_cons_of_ne]
          intro z
          exact q (by rw [List.getElem?_eq_getElem lt, z])
        · rw [List.drop_eq_nil_of_le (by omega), List.drop_eq_nil_of_le (by omega)]
      rw [e]
      exact ih
theorem txt_cnt (x : Str) (c : Nat) : Txt.count x ⟨#[c]⟩ = ((x.cps.toList.count c : Nat) : Int) := by
  unfold Txt.count
  rw [StrLaws.occ_eq, Array.length_toList, Nat.sub_zero, occ_cnt x c (x.length + 1) (x.length + 1) 0 (#[], 0) (by omega) (Nat.le_refl _) (by simp)]
  simp
/-- text.count(sign) -/
def fCntS (d1 d2 : D) (P : R → Prop) : Prop := ∃ (l : List Nat) (c : Nat), d1 = .str (S l) ∧ d2 = .str (S [c]) ∧ P (.sh (.int (l.count c : Nat)))
section
variable {X : Cx} {b : Bg} {K : PySem.W.Frag}
theorem d_cntS {o a : Expr} {uo u : DE} {apos pos : Pos} (ho : PD X b o uo) (h : PD X b a u)
    (hf : ∀ {to te : TE}, PE X o to → PE X a te → PE X (.Call (.Attribute o "count" apos) [a] [] pos) (tM1 (fun x xs H Q => ∃ a b, x = .str a ∧ xs = [.str b] ∧ Q (.int (Txt.count a b)) H) to te) := by exact fun h1 h2 => pe_m1 PySem.F.slot_str_count PySem.F.type_str_count mt_count h1 h2 rfl rfl rfl) :
    PD X b (.Call (.Attribute o "count" apos) [a] [] pos) (uM1 fCntS uo u) := by
  obtain ⟨t1, p1, l1⟩ := ho
  obtain ⟨t2, p2, l2⟩ := h
  refine ⟨_, hf p1 p2, le_m1 ?_ l1 l2⟩
  rintro b L G0 H0 G H σ e d1 d2 x y P Q g h1 h2 ⟨l, c, rfl, rfl, p⟩ k
  cases h1; cases h2
  refine ⟨_, _, rfl, rfl, ?_⟩
  rw [show (S [c] : Str) = ⟨#[c]⟩ from rfl, txt_cnt]
  exact k _ (.sh (.int _)) G H (Stp.refl g.ex) rfl p
/-! ### a sign so many times -/
theorem op_mulS : OpR X (binaryOp .Mult) (fun x y H Q => ∃ (c : Nat) (n : Nat), x = .str (S [c]) ∧ y = .int (n : Int) ∧ n ≤ 100000 ∧ Q (.str (S (List.replicate n c))) H) := by
  intro pins s σ H x y v u Q I rx ry h
  obtain ⟨c, n, rfl, rfl, hn, q⟩ := h
  obtain ⟨t, rfl⟩ := rx
  obtain ⟨t', rfl⟩ := ry
  have e : Txt.mul (S [c]) (n : Int) = S (List.replicate n c) := by
    unfold Txt.mul
    match n with
    | 0 => rfl
    | 1 => rfl
    | n + 2 =>
      rw [if_neg (by omega), if_neg (by simp [S, Str.length]; omega)]
      have go : ∀ (m : Nat) (a : Array Nat), (List.replicate m (#[c] : Array Nat)).foldl (· ++ ·) a = a ++ (List.replicate m c).toArray := by
        intro m
        induction m with
        | zero => intro a; simp
        | succ m ih => intro a; rw [List.replicate_succ, List.foldl_cons, ih, List.replicate_succ]; apply Array.toList_inj.mp; simp
      show (⟨(List.replicate ((n + 2 : Nat) : Int).toNat (#[c] : Array Nat)).foldl (· ++ ·) #[]⟩ : Str) = _
      rw [Int.toNat_natCast, go]
      simp [S]
  refine SB.mul (x := S [c]) ⟨?_, fun h1 h2 => ?_, fun h1 h2 => ?_⟩ fun t2 k => ⟨.str (S (List.replicate n c)), H, I.tok _, ⟨t2, by rw [e]⟩, q⟩
  · rw [decide_eq_false (by omega), decide_eq_false (by omega)]; rfl
  · show ¬ (((S [c]).length : Int) > (2 ^ 63 - 1) / (n : Int))
    have l1 : ((S [c]).length : Int) = 1 := rfl
    rw [l1]
    have : (1 : Int) ≤ (2 ^ 63 - 1) / (n : Int) := by
      rw [Int.le_ediv_iff_mul_le (by omega)]; omega
    omega
  · unfold Builtin.Str.tooLong
    have l1 : (S [c]).length = 1 := rfl
    rw [l1, Int.toNat_natCast, sizeLine_eq]
    exact decide_eq_false (by omega)
def fMulS (d1 d2 : D) (P : R → Prop) : Prop := ∃ (c n : Nat), d1 = .str (S [c]) ∧ d2 = .int (n : Int) ∧ n ≤ 100000 ∧ P (.sh (.str (S (List.replicate n c))))
theorem d_mulS {a c : Expr} {u1 u2 : DE} {pos : Pos} (h1 : PD X b a u1) (h2 : PD X b c u2) : PD X b (.BinOp a .Mult c pos) (uBin fMulS u1 u2) := by
  refine d_bin op_mulS ?_ h1 h2
  rintro b L G0 H0 G H σ e d1 d2 x y P Q g h1 h2 ⟨c, n, rfl, rfl, hn, p⟩ k
  cases h1; cases h2
  exact ⟨c, n, rfl, rfl, hn, k _ (.sh (.str _)) G H (Stp.refl g.ex) rfl p⟩
end
end DL
namespace DL
open PySem L2 PyProof.Rows
/-! ### dict displays -/
section
variable {X : Cx} {b : Bg} {K : PySem.W.Frag}
/-! more than 15 pairs, all of them written -/
theorem dict_set {P : Program} {w : World} {A : Around} {E : Value → Shared → Prop} {s : Shared} {a : Addr} {kvs : List (Key × Value)} {k : Key} {u v : Value} {Q : Unit → Shared → Prop} (hk : (mixKind P w).is k u = true) (dd : s.heap.DictOf (mixKind P w) a kvs) (hz : kvs.length ≤ sizeLine)
    (q : ∀ h' tk, h'.DictOf (mixKind P w) a (stored kvs k v) → Heap.SameBut a s.heap h' → Q () { s with heap := h', toks := tk }) : wpAny (model P w) A (dictSet a u v) Q E s := by
  unfold dictSet
  refine wpAny_holding (wpAny_bind ((mixKind P w).pyHash (k := k) hk ?_))
  exact wpAny_dictSetHashed_pairs (s := { s with toks := s.toks + 1 }) hk dd (fun h' d2 sb => q h' _ d2 sb) hz
structure PLc (X : Cx) (pos : Pos) (keys : List (Option Expr)) (values : List Expr) (kvs : List (Key × V)) : Prop where
  run : ∀ (p : Addr) (acc : List (Key × V)) (pins : List (Addr × Obj)) (s : Shared) (σ : L2.St) (H : Hp) (R : Unit → Shared → Prop), Inv X pins σ H s → H p = some (.dK acc) → acc.length + kvs.length ≤ 1000 →
    (∀ s', Inv X pins σ (upd H p (.dK (mergeK acc kvs))) s' → R () s') → wpAny (model X.prog X.w) X.A (forIn (pairTrees keys values X.env pos) PUnit.unit fun x __s =>
      match x with
      | (k, v) => do
        let kv ← k
        let vv ← holding [kv] v
        holding [kv, vv] (dictSet p kv vv)
        pure (ForInStep.yield PUnit.unit)) R X.xe s
theorem upd_upd {H : Hp} {p : Addr} {a c : HO} : upd (upd H p a) p c = upd H p c := by
  funext q
  by_cases h : q = p
  · subst h; rw [upd_same, upd_same]
  · rw [upd_ne h, upd_ne h, upd_ne h]
theorem upd_self {H : Hp} {p : Addr} {a : HO} (h : H p = some a) : upd H p a = H := by
  funext q
  by_cases e : q = p
  · subst e; rw [upd_same, h]
  · rw [upd_ne e]
theorem plc_nil {pos : Pos} : PLc X pos [] [] [] := ⟨fun p acc pins s σ H R I hp _ k => by
  show wpAny _ _ (pure PUnit.unit) _ _ _
  have := k s (by rw [show mergeK acc [] = acc from rfl, upd_self hp]; exact I)
  exact wpAny_pure this⟩
theorem plc_cons {pos : Pos} {k v : Expr} {ks : List (Option Expr)} {vs : List Expr} {kk : Key} {vv : V} {kvs : List (Key × V)} (hk : PE X k (tC (kV kk))) (hv : PE X v (tC vv)) (hr : PLc X pos ks vs kvs) : PLc X pos (some k :: ks) (v :: vs) ((kk, vv) :: kvs) := by
  constructor
  intro p acc pins s σ H R I hp hl q
  show wpAny _ _ (forIn ((eval k X.env, do let x ← eval v X.env; standAt pos; pure x) :: pairTrees ks vs X.env pos) PUnit.unit _) _ _ _
  rw [List.forIn_cons]
  dsimp only
  have stop : ∀ (s' : Shared) (H' : Hp), Inv X pins σ H' s' → Inv X pins σ H' s' := fun _ _ h => h
  refine wpAny_bind (wpAny_bind (thn (hk.run pins s σ H (fun x H1 => x = kV kk ∧ H1 = H) I ⟨rfl, rfl⟩) fun u s1 ⟨x, H1, I1, rx, ex, eh⟩ => ?_))
  subst ex; subst eh
  refine wpAny_bind (wpAny_holding (wpAny_bind (thn (hv.run pins s1 σ H1 (fun y H2 => y = vv ∧ H2 = H1) I1 ⟨rfl, rfl⟩) fun z s2 ⟨y, H2, I2, ry, ey, eh⟩ => ?_)))
  subst ey; subst eh
  refine wpAny_bind (wpAny_standAt (wpAny_pure ?_))
  obtain ⟨z1, hd, vs0, rel, dd⟩ := dk_of I2.hok hp
  have hlen := rel.length
  refine wpAny_bind (wpAny_holding (dict_set (kV_is (P := X.prog) (w := X.w) rx) dd (by rw [← hlen]; exact z1) fun h' tk d2 sb => ?_))
  refine wpAny_pure ?_
  dsimp only
  have hz2 : (putK acc kk y).length ≤ sizeLine := by
    have := length_putK acc kk y
    rw [sizeLine_eq]
    rw [List.length_cons] at hl
    omega
  have he : ∃ o, h'.get? p = some o := by
    obtain ⟨o, _, _, ho, _⟩ := d2
    exact ⟨o, ho⟩
  have I3 : Inv X pins σ (upd H2 p (.dK (putK acc kk y))) { s2 with heap := h', toks := tk } := d_write I2 (by rw [hp]; exact True.intro) sb he (dk_new hz2 hd (rel.put kk ry) d2)
  refine hr.run p _ pins _ σ _ R I3 upd_same ?_ fun s' I' => q s' ?_
  · have := length_putK acc kk y
    rw [List.length_cons] at hl
    omega
  · rw [upd_upd] at I'
    exact I'
theorem pe_dispL {pos : Pos} {keys : List (Option Expr)} {values : List Expr} {kvs : List (Key × V)} (h : PLc X pos keys values kvs) (hall : keys.all (·.isSome) = true) (hl : keys.length = values.length) (h0 : keys ≠ []) (hn : 15 < keys.length) (hn2 : keys.length < 17) (hk : kvs.length ≤ 1000) :
    PE X (.Dict keys values pos) (fun _ H Q => ∀ p, H p = none → Q (.ref p) (upd H p (.dK (mergeK [] kvs)))) := by
  constructor
  intro pins s σ H Q I q
  have hlen := pairTrees_length keys values X.env pos hall hl
  have ne : pairTrees keys values X.env pos ≠ [] := fun e => by rw [e] at hlen; simp at hlen; omega
  rw [arm_eval_Dict, zip_pairTrees keys values X.env pos hall hl, dictDisplay_pairs _ ne (by omega)]
  refine wpAny_bind (wpAny_standAt (wpAny_bind ?_))
  have hf := I.hok.fresh (Nat.le_refl s.heap.objs.size)
  have I1 := I.laid (a := s.heap.objs.size) (o := .dK []) (h' := s.heap.push { cls := .type "dict", data := .dict #[] }) (t' := s.toks) (fun _ _ q => Heap.get?_push_of_some _ q) (Nat.le_refl _) (dk_empty s.heap I.big)
  unfold subDict
  refine wpAny_bind (wpAny_alloc ?_)
  refine wpAny_bind (wpAny_holding ?_)
  rw [if_neg (by omega)]
  refine wpAny_bind (wpAny_rule ?_)
  refine wpAny_bind (h.run s.heap.objs.size [] pins _ σ _ _ I1 upd_same (by simpa using hk) fun s' I' => wpAny_pure (wpAny_pure (wpAny_pure ?_)))
  rw [upd_upd] at I'
  exact ⟨.ref s.heap.objs.size, _, I', rfl, q _ hf⟩
/-- constants, as data -/
def cV : D → V
  | .int i => .int i
  | .str z => .str z
  | .bl c => .bl c
  | _ => .non
def flatC : D → Bool
  | .int _ => true
  | .str _ => true
  | .bl _ => true
  | .non => true
  | _ => false
theorem rep_c {K : PySem.W.Frag} {G : Hp} {d : D} (h : flatC d = true) : Rep K G d (cV d) := by
  cases d <;> first | rfl | cases h
theorem repK_c {K : PySem.W.Frag} {G : Hp} : ∀ {kvs : List (Key × D)}, (kvs.all fun kv => flatC kv.2) = true → RepK K G kvs (kvs.map fun kv => (kv.1, cV kv.2))
  | [], _ => rfl
  | (k, d) :: kvs, h => by
    rw [List.all_cons, Bool.and_eq_true] at h
    exact ⟨_, _, rfl, rep_c h.1, repK_c h.2⟩
def uDispC (kvs : List (Key × D)) : DE := fun _ P => P (.ow (.dk (mergeD [] kvs)))
theorem d_dispL {pos : Pos} {keys : List (Option Expr)} {values : List Expr} {kvs : List (Key × D)} (h : PLc X pos keys values (kvs.map fun kv => (kv.1, cV kv.2))) (hc : (kvs.all fun kv => flatC kv.2) = true := by decide) (hall : keys.all (·.isSome) = true := by rfl) (hl : keys.length = values.length := by rfl) (h0 : keys ≠ [] := by exact fun e => nomatch e) (hn : 15 < keys.length := by decide) (hn2 : keys.length < 17 := by decide) (hk : kvs.length ≤ 1000 := by decide) :
    PD X b (.Dict keys values pos) (uDispC kvs) := by
  refine ⟨_, pe_dispL h hall hl h0 hn hn2 (by rw [List.length_map]; exact hk), ?_⟩
  intro L G0 H0 G H σ e P Q g hu k
  have hr : RepK X.K G kvs (kvs.map fun kv => (kv.1, cV kv.2)) := repK_c hc
  exact g.newK (mergeD_K hr (show RepK X.K G [] [] from rfl)) hu k
end
end DL
namespace DL
open PySem L2 PyProof.Rows
/-! ### classmethods; a class that stands in a variable -/
section
variable {X : Cx} {b : Bg} {K : PySem.W.Frag}
def tMakeV (C : Addr) (sp : Sp) (tf : TE) (t : TA) : TE := fun σ H Q => tf σ H fun v H1 => v = .ref C ∧ tMake C sp [] E0 t σ H1 Q
theorem pe_makeV {CX : CXT} {k : Nat} {f C : Addr} {fd : FuncData} {ps : List Str} {sp : Sp} {x : Str} {p pos : Pos} {e : Expr} {es : List Expr} {t : TA} {tf : TE} (hf : PE X (.Name x p) tf) (M : Mk X.K C f) (F : FnOk X.prog X.w X.K X.mg X.base CX k f fd ps sp) (hr : Room (k + 1) X.A) (hb : Binds X.K fd ps []) (hx : Passes CX X E0)
    (ha : PA X (e :: es) t) (he : starEach (e :: es) X.env = (false, eval e X.env) :: starEach es X.env := by rfl) (hpl : (backTo pos (starEach es X.env)).any (·.1) = false := by rfl) : PE X (.Call (.Name x p) (e :: es) [] pos) (tMakeV C sp tf t) := by
  constructor
  intro pins s σ H Q I h
  refine wpAny_Call_Name_kw (thn (hf.run pins s σ H _ I h) fun f s0 ⟨v, H0, I0, r0, ev, q0⟩ => ?_)
  subst ev
  obtain rfl : f = Value.ref C := r0
  refine PySem.W.callWith_K (h₀ := X.base) I0.ok.mod.kin M.kp (thn (ha.run pos pins s0 σ H0 _ I0 q0) fun us s1 ⟨vs, H1, I1, r, q⟩ => ⟨I1.kIn, ?_⟩) he hpl
  exact run_make M F hr hb .nil hx I1 r q
/-- x(..), x a variable that holds the class -/
def uMakeV (C : Addr) (f : FI) (u : DE) (ua : DA) : DE := fun e P => u e fun r => r = .sh (.fn C) ∧ uMake C f ua e P
theorem d_makeV {x y : Str} {C : Addr} {k : Nat} {ps : List Str} {f : FI} {a : Expr} {es : List Expr} {u : DE} {ua : DA} {p pos : Pos} (F : KnownI X.prog X.w X.K X.mg X.base x C k ps (spI X.K C f)) (hr : Room (k + 1) X.A) (h : PD X b (.Name y p) u) (ha : PDA X b (a :: es) ua)
    (he : starEach (a :: es) X.env = (false, eval a X.env) :: starEach es X.env := by rfl) (hpl : (backTo pos (starEach es X.env)).any (·.1) = false := by rfl) : PD X b (.Call (.Name y p) (a :: es) [] pos) (uMakeV C f u ua) := by
  obtain ⟨g, fd, F, M, hm, bi⟩ := F
  obtain ⟨t, pa, l⟩ := ha
  obtain ⟨tf, pf, lf⟩ := h
  refine ⟨_, pe_makeV pf M F hr bi pass0 pa he hpl, ?_⟩
  intro L G0 H0 G H σ e P Q gd hu k
  refine lf L G0 H0 G H σ e _ _ gd hu fun v r G1 H1 s1 hr1 q => ?_
  obtain ⟨rfl, q⟩ := q
  refine ⟨hr1, ?_⟩
  refine le_make l L G0 H0 G1 H1 σ e _ _ (gd.step s1) q fun v2 r2 G2 H2 s2 hr2 hp => ?_
  exact k v2 r2 G2 H2 (s1.trans s2) (hr2.back fun a hb z => s1.back a hb z) hp
/-- x.f, x such a variable, f a constant of the class -/
def uFldC (C : Addr) (d : D) (u : DE) : DE := fun e P => u e fun r => r = .sh (.fn C) ∧ P (.sh d)
theorem d_cvalV {C : Addr} {mc : Value} {f : Str} {v : V} {d : D} {a : Expr} {u : DE} {pos : Pos} (r : ClX.CRead X.K C mc) (c : ∃ w, ClX.CVal X.K C mc f v w) (hr : ∀ G, Rep X.K G d v) (h : PD X b a u) (hb : attributeBase a f X.env (eval a X.env) = eval a X.env := by rfl) : PD X b (.Attribute a f pos) (uFldC C d u) := by
  obtain ⟨w, c⟩ := c
  obtain ⟨t, p, l⟩ := h
  refine ⟨_, ClX.pe_cval p hb, ?_⟩
  intro L G0 H0 G H σ e P Q g hu k
  refine l L G0 H0 G H σ e _ _ g hu fun v1 r1 G1 H1 s1 hr1 q => ?_
  obtain ⟨rfl, q⟩ := q
  exact ⟨C, mc, v, w, hr1, r, c, k v (.sh d) G1 H1 s1 (hr G1) q⟩
/-- C.m(..), m a classmethod; the keyword-only parameters lack -/
structure KnownC (P : Program) (w : World) (K : PySem.W.Frag) (mg : Str → Option Value) (base : Heap) (C : Addr) (mc : Value) (m : Str) (k : Nat) (ps : List Str) (dds : List D) (sp : Sp) : Prop where
  ex : ∃ p g fd ds dvs, FnOk P w K mg base CX0 k g fd ps sp ∧ ClX.CMet K C mc m p g ∧ Binds K fd ps ds ∧ Vals dvs ds ∧ ∀ G, RepL K G dds dvs
def uCMeth (C : Addr) (f : FS) (dds : List D) (ua : DA) : DE := fun e P => ua e fun ds => f (.fn C :: (ds ++ dds)) P
theorem d_cmeth {C : Addr} {mc : Value} {m x : Str} {k : Nat} {ps : List Str} {dds : List D} {f : FS} {a : Expr} {es : List Expr} {ua : DA} {p pos apos : Pos} {pl : Sem Bool} (F : KnownC X.prog X.w X.K X.mg X.base C mc m k ps dds (spN X.K f)) (hr : Room k X.A) (hm : X.mg x = some (.ref C)) (r : ClX.CRead X.K C mc) (ha : PDA X b (a :: es) ua) (hg : Gl X x := by rfl) (hd : (x == ("__debug__" : Str)) = false := by decide)
    (hst : starEach (a :: es) X.env = (false, eval a X.env) :: starEach es X.env := by rfl) (hpl : (backTo pos (starEach es X.env)).any (·.1) = false := by rfl)
    (ht : eval (.Call (.Attribute (.Name x p) m apos) (a :: es) [] pos) X.env = (do
      let ov ← eval (.Name x p) X.env
      standAt apos.atName
      let (f, first) ← holding [ov] (getMethod ov m pl)
      callWith pos f first (backTo pos (starEach (a :: es) X.env)) (backToKw pos (keywordEach [] X.env))) := by rfl) : PD X b (.Call (.Attribute (.Name x p) m apos) (a :: es) [] pos) (uCMeth C f dds ua) := by
  obtain ⟨rp, fa, fd, ds0, dvs, F, hs, hb, hv, hrep⟩ := F
  obtain ⟨t, pa, l⟩ := ha
  refine ⟨_, ClX.pe_cmeth (pl := pl) (pe_glob (v := .ref C) hg hm rfl hd) r hs (FnOk.raw F hb hv) hr pass0 pa hst hpl ht, ?_⟩
  intro L G0 H0 G H σ e P Q g hu k
  refine ⟨rfl, ?_⟩
  refine l L G0 H0 G H σ e _ _ g hu fun vs ds G1 H1 s1 hds q => ?_
  have g1 := g.step s1
  refine ⟨G1, .fn C :: (ds ++ dds), P, g1.ex, ⟨_, _, rfl, rfl, RepL.append hds (hrep G1)⟩, q, fun v r G' H' s hr hp => ?_⟩
  exact k v r G' H' (s1.trans s.some) (ret_rep g1 hr fun a hb z => s1.back a hb z) hp
structure HereC (K : PySem.W.Frag) (C : Addr) (mc : Value) (m qual : Str) (st : Stmt) (ps : List Str) (dds : List D) : Prop where
  ex : ∃ p g fd kws ds, FunD K m qual (defArgs st) (defBody st) (defScope st) [] kws g fd ∧ ClX.CMet K C mc m p g ∧ Vals (kws.map (·.2)) ds ∧ Binds K fd ps ds ∧ ∀ G, RepL K G dds (kws.map (·.2))
end
section
variable {P : Program} {w : World} {K : PySem.W.Frag} {mg : Str → Option Value} {base : Heap}
theorem fn_dataD {x qual : Str} {st : Stmt} {f : Addr} {fd : FuncData} {N ps : List Str} {k : Nat} {fs : FS} {u : DS} {kws : List (Str × V)} (F : FunD K x qual (defArgs st) (defBody st) (defScope st) [] kws f fd) (S : FnScope N ps (defScope st)) (len : ∀ ds P, fs ds P → ds.length = ps.length)
    (hb : ∀ (cdv : Value) (A : Around) (outer : List Env) (s : Shared) (H : Hp) (E : XK), Room k (A.deeper (envOfC qual (defScope st) s.heap.objs.size f cdv)) → PDSs (cxOf CX0 P w K mg base N qual (defScope st) f cdv A outer s H E).nox (bN none) (defBody st) u)
    (hu : ∀ ds P, fs ds P → u ⟨fun _ => P (.sh .non), fun r _ => P r, fun _ => False, fun _ => False⟩ (env0 N ds)) : FnOk P w K mg base CX0 (k + 1) f fd ps (spN K fs) := by
  refine F.ok S (fun vs H Q E h => ?_) (fun cdv A outer s H vs Q E hr h => ?_)
  · obtain ⟨G, ds, P, _, hr, hf, _⟩ := h
    rw [hr.length]; exact len ds P hf
  · obtain ⟨G, ds, P', ex, hds, hf, kk⟩ := h
    obtain ⟨t, p, l⟩ := hb cdv A outer s H E hr
    refine ⟨t, p.nox, l [] G H G H _ _ ⟨fun _ => P' (.sh .non), fun r _ => P' r, fun _ => False, fun _ => False⟩ _ (good0 ex hds) ⟨fun G' H' σ e g h => ?_, fun G' H' σ e v r g hr h => ?_, fun G' H' σ e g h => h.elim, fun G' H' σ e g h => h.elim⟩ (hu ds P' hf)⟩
    · exact kk .non (.sh .non) G' H' g.stp rfl h
    · exact kk v r G' H' g.stp hr h
/-- where a classmethod stands, with one keyword-only parameter whose default is an empty tuple -/
theorem hereC_mk {C : Addr} {mc : Value} {m qual kw : Str} {st : Stmt} {ps : List Str} {p g D0 T0 : Addr} {rest : List Value} {oc : Value} {od an o0 : Option Addr} {osl sl0 : Array (Option Value)} {doc pm cdv ct : Value} {n0 : Nat}
    (a : PySem.W.findCls K (.ref C) mc m = some (.get (.builtin "classmethod.__get__") (.ref p) .none (.ref C))) (r : PySem.W.recIn K p "classmethod" = some (.ref g :: rest)) (fi : PySem.W.fnIn K g = true)
    (l : K.lookup g = some ⟨oc, od, .func (PySem.W.fnOf m qual (defArgs st) (defBody st) (defScope st) .none (.ref D0) doc pm an cdv ct), osl⟩) (c : PySem.W.codeIn K cdv qual = true) (k : PySem.W.keepIn K (.ref g) = true)
    (d : PySem.W.nsIn K D0 kw = some (some (.ref T0))) (t : K.lookup T0 = some ⟨.type "tuple", o0, .seq #[] n0, sl0⟩)
    (h : ∀ (D : Addr) (doc pm : Value) (an : Option Addr) (cdv ct : Value) (us ks : List Value), us.length + 1 = ps.length → ks.length = 1 →
      KwChain D ([kw].zip ks) (bindArgs (PySem.W.fnOf m qual (defArgs st) (defBody st) (defScope st) .none (.ref D) doc pm an cdv ct) ⟨us, []⟩) (ps.zip (us ++ ks))) (hp : 1 ≤ ps.length) : HereC K C mc m qual st ps [.tup []] := by
  have F : FunD K m qual (defArgs st) (defBody st) (defScope st) [] [(kw, V.ref T0)] g (PySem.W.fnOf m qual (defArgs st) (defBody st) (defScope st) .none (.ref D0) doc pm an cdv ct) :=
    ⟨⟨oc, od, .none, .ref D0, doc, pm, an, cdv, ct, osl, rfl, l, c, .inl ⟨rfl, rfl⟩, .inr ⟨D0, rfl, fun q hq => by
      rw [List.mem_singleton.mp hq]
      exact ⟨_, d, rfl⟩⟩⟩, k⟩
  obtain ⟨ds, hv, hb⟩ := F.binds0 (ps := ps) (ps.length - 1) (by simp) (by simp; omega) (fun D doc pm an cdv ct us ks h1 h2 => h D doc pm an cdv ct us ks (by omega) (by simpa using h2))
  exact ⟨p, g, _, _, ds, F, ⟨a, ⟨rest, r⟩, fi⟩, hv, hb, fun G => ⟨_, _, rfl, rep_tupK (ks := []) t (Nat.zero_le _) .nil G, rfl⟩⟩
end
end DL
namespace DL
open PySem L2 PyProof.Rows
/-! ### plain forms of the readings: dict comprehensions, two walks, sorted dicts -/
theorem putD_new {kvs : List (Key × D)} {k : Key} {d : D} (h : k ∉ kvs.map (·.1)) : putD kvs k d = kvs ++ [(k, d)] := by
  unfold putD
  rw [if_neg]
  intro z
  rw [List.any_eq_true] at z
  obtain ⟨x, hx, e⟩ := z
  exact h (List.mem_map.mpr ⟨x, hx, of_decide_eq_true e⟩)
theorem dc_map {α : Type} {ui : DI} {ug : DG} {ut : DT} {uk ue : DE} {vs : List Nat} {e : List Sl} {P : R → Prop} (ys : List α) (inj : α → D) (p : α → Bool) (kf : α → Key) (vf : α → D) (hi : ∀ Q : List D → Prop, Q (ys.map inj) → ui e Q) (hl : ys.length ≤ 1000000) (hn : ((ys.filter p).map kf).Nodup)
    (hb : ∀ y ∈ ys, ∀ (S : Key → D → Prop) (T : Prop), (p y = true → S (kf y) (vf y)) → (p y = false → T) → ug (inj y) (wipeE e vs) fun e2 => ut e2 fun c => if c = true then uk e2 (fun rk => ∃ k, keyD rk.look = some k ∧ ue e2 (R.keep fun d => S k d)) else T)
    (k : P (.ow (.dk ((ys.filter p).map fun y => (kf y, vf y))))) : uDc ui ug ut uk ue vs e P := by
  refine hi _ ⟨fun i acc => acc = ((ys.take i).filter p).map fun y => (kf y, vf y), rfl, ?_, ?_⟩
  · rintro i x acc hx rfl
    rw [List.getElem?_map] at hx
    cases q : ys[i]? with
    | none => rw [q] at hx; cases hx
    | some y =>
      rw [q] at hx
      cases hx
      have hlt := (List.getElem?_eq_some_iff.mp q).1
      have ht : ys.take (i + 1) = ys.take i ++ [y] := by rw [List.take_add_one, q]; rfl
      refine hb y (List.mem_of_getElem? q) (fun k d => (((ys.take i).filter p).map fun y => (kf y, vf y)).length < 1000000 ∧ putD (((ys.take i).filter p).map fun y => (kf y, vf y)) k d = ((ys.take (i + 1)).filter p).map fun y => (kf y, vf y)) _ (fun hp => ⟨?_, ?_⟩) (fun hp => ?_)
      · rw [List.length_map]
        have := List.length_filter_le p (ys.take i)
        rw [List.length_take] at this
        omega
      · rw [ht, List.filter_append, List.map_append, List.filter_cons, if_pos hp]
        refine putD_new ?_
        rw [List.map_map]
        intro hm
        obtain ⟨h1, h2⟩ := List.getElem?_eq_some_iff.mp q
        have hs0 : ys = ys.take i ++ y :: ys.drop (i + 1) := by
          rw [← h2, List.getElem_cons_drop, List.take_append_drop]
        have hs := congrArg (List.filter p) hs0
        rw [List.filter_append, List.filter_cons_of_pos hp, show (ys.take i).filter p ++ y :: (ys.drop (i + 1)).filter p = ((ys.take i).filter p ++ [y]) ++ (ys.drop (i + 1)).filter p by simp] at hs
        rw [hs, List.map_append, List.map_append] at hn
        have n1 := (List.nodup_append.mp hn).1
        have n2 := (List.nodup_append.mp n1).2.2
        exact n2 _ hm _ (by simp) rfl
      · show _ = _
        rw [ht, List.filter_append, List.filter_cons_of_neg (by simp [hp])]
        simp
  · rintro acc rfl
    rw [List.length_map, List.take_length]
    exact k
/-- the inner walk -/
def inn (ui1 : DI) (ug1 : DG) (ut1 : DT) (ue : DE) (vs1 : List Nat) (e2 : List Sl) (acc : List D) (T : List D → Prop) : Prop := ui1 e2 fun ys => ∃ W1 : Nat → List D → Prop, W1 0 acc ∧
  (∀ (j : Nat) y acc1, ys[j]? = some y → W1 j acc1 → ug1 y (wipeE e2 vs1) fun e3 => ut1 e3 fun c1 => if c1 = true then ue e3 (R.keep fun d => acc1.length < 1000000 ∧ W1 (j + 1) (acc1 ++ [d])) else W1 (j + 1) acc1) ∧ ∀ acc1, W1 ys.length acc1 → T acc1
theorem inn_pure {β : Type} {ui1 : DI} {ug1 : DG} {ut1 : DT} {ue : DE} {vs1 : List Nat} {e2 : List Sl} {acc : List D} {T : List D → Prop} (zs : List β) (inj : β → D) (p : β → Bool) (g : β → D) (hi : ∀ Q : List D → Prop, Q (zs.map inj) → ui1 e2 Q) (hl : acc.length + zs.length < 1000000)
    (hb : ∀ z ∈ zs, ∀ (S : D → Prop) (U : Prop), (p z = true → S (g z)) → (p z = false → U) → ug1 (inj z) (wipeE e2 vs1) fun e3 => ut1 e3 fun c => if c = true then ue e3 (R.keep S) else U) (k : T (acc ++ (zs.filter p).map g)) : inn ui1 ug1 ut1 ue vs1 e2 acc T := by
  refine hi _ ⟨fun j acc1 => acc1 = acc ++ ((zs.take j).filter p).map g, by simp, ?_, ?_⟩
  · rintro j x acc1 hx rfl
    rw [List.getElem?_map] at hx
    cases q : zs[j]? with
    | none => rw [q] at hx; cases hx
    | some z =>
      rw [q] at hx
      cases hx
      have hlt := (List.getElem?_eq_some_iff.mp q).1
      have ht : zs.take (j + 1) = zs.take j ++ [z] := by rw [List.take_add_one, q]; rfl
      refine hb z (List.mem_of_getElem? q) _ _ (fun hp => ⟨?_, ?_⟩) (fun hp => ?_)
      · rw [List.length_append, List.length_map]
        have := List.length_filter_le p (zs.take j)
        rw [List.length_take] at this
        omega
      · show _ = _
        rw [ht, List.filter_append, List.map_append, List.filter_cons_of_pos hp, List.append_assoc]; rfl
      · show _ = _
        rw [ht, List.filter_append, List.filter_cons_of_neg (by simp [hp])]; simp
  · rintro acc1 rfl
    rw [List.length_map, List.take_length]
    exact k
theorem lc2_pre {α : Type} {ui : DI} {ug : DG} {ut : DT} {ui1 : DI} {ug1 : DG} {ut1 : DT} {ue : DE} {vs vs1 : List Nat} {e : List Sl} {P : R → Prop} (ys : List α) (inj : α → D) (f : α → List D) (hi : ∀ Q : List D → Prop, Q (ys.map inj) → ui e Q)
    (hb : ∀ (pre : List α) (y : α) (post : List α), ys = pre ++ y :: post → ∀ (T : List D → Prop), T (pre.flatMap f ++ f y) → ug (inj y) (wipeE e vs) fun e2 => ut e2 fun c => if c = true then inn ui1 ug1 ut1 ue vs1 e2 (pre.flatMap f) T else T (pre.flatMap f))
    (k : P (.ow (.lst (ys.flatMap f)))) : uLc2 ui ug ut ui1 ug1 ut1 ue vs vs1 e P := by
  refine hi _ ⟨fun i acc => acc = (ys.take i).flatMap f, rfl, ?_, ?_⟩
  · rintro i x acc hx rfl
    rw [List.getElem?_map] at hx
    cases q : ys[i]? with
    | none => rw [q] at hx; cases hx
    | some y =>
      rw [q] at hx
      cases hx
      have ht : ys.take (i + 1) = ys.take i ++ [y] := by rw [List.take_add_one, q]; rfl
      obtain ⟨h1, h2⟩ := List.getElem?_eq_some_iff.mp q
      have hs : ys = ys.take i ++ y :: ys.drop (i + 1) := by
        rw [← h2, List.getElem_cons_drop, List.take_append_drop]
      refine hb (ys.take i) y (ys.drop (i + 1)) hs (fun acc1 => acc1 = (ys.take (i + 1)).flatMap f) ?_
      rw [ht, List.flatMap_append]
      simp
  · rintro acc rfl
    rw [List.length_map, List.take_length]
    exact k
/-- what is done with each thing and with those behind it -/
def tailsF {α β : Type} (F : α → List α → List β) : List α → List β
  | [] => []
  | x :: r => F x r ++ tailsF F r
theorem tailsF_idx {α β : Type} (F : α → List α → List β) : ∀ (l pre : List α), (l.zipIdx pre.length).flatMap (fun q => F q.1 ((pre ++ l).drop (q.2 + 1))) = tailsF F l
  | [], _ => rfl
  | x :: r, pre => by
    have ih := tailsF_idx F r (pre ++ [x])
    rw [List.length_append, List.append_assoc] at ih
    rw [List.zipIdx_cons, List.flatMap_cons]
    show F x ((pre ++ x :: r).drop (pre.length + 1)) ++ _ = F x r ++ tailsF F r
    rw [show (pre ++ x :: r).drop (pre.length + 1) = r by rw [show pre ++ x :: r = (pre ++ [x]) ++ r by simp]; exact List.drop_left' (by simp)]
    rw [← ih]
    rfl
theorem tailsF_idx0 {α β : Type} (F : α → List α → List β) (l : List α) : l.zipIdx.flatMap (fun q => F q.1 (l.drop (q.2 + 1))) = tailsF F l := tailsF_idx F l []
theorem fSorted_mk {α : Type} {f : α → D} {m : List (Int × α)} {P : R → Prop} (h : m.length < 64) (p : P (.ow (.lst ((srtI (m.map (·.1))).map .int)))) : fSorted (.dk (dkv Sum.inl f m)) P := by
  refine .inl ⟨m.map (·.1), keys_dkv m, by rw [List.length_map]; exact h, fun ys h1 h2 => ?_⟩
  rw [srtI_eq h1 h2]
  exact p
theorem fSorted_ek {α : Type} {f : α → D} {m : List (Str × α)} {P : R → Prop} (h : m.length < 64) (p : P (.ow (.lst ((srtS (m.map (·.1))).map .str)))) : fSorted (.dk (dkv Sum.inr f m)) P := by
  refine .inr ⟨m.map (·.1), keys_dkv m, by rw [List.length_map]; exact h, fun ys h1 h2 => ?_⟩
  rw [srtS_eq h1 (sortedS_pw h2)]
  exact p
theorem in_mk {α : Type} {f : α → D} {m : List (Int × α)} {n : Int} {neg : Bool} {P : R → Prop} (p : P (.sh (.bl (if neg then !decide (n ∈ m.map (·.1)) else decide (n ∈ m.map (·.1)))))) : fInU neg (.int n) (.dk (dkv Sum.inl f m)) P := by
  refine ⟨.inl n, rfl, ?_⟩
  have e : (valD (dkv Sum.inl f m) (.inl n)).isSome = decide (n ∈ m.map (·.1)) := by
    rw [valD_dkv inl_inj, Option.isSome_map, Bool.eq_iff_iff, aget_mem, decide_eq_true_iff]
  have e2 : (valD (dkv Sum.inl f m) (.inl n)).isNone = !decide (n ∈ m.map (·.1)) := by rw [← e]; cases valD (dkv Sum.inl f m) (.inl n) <;> rfl
  rw [e, e2]
  exact p
theorem in_ek {α : Type} {f : α → D} {m : List (Str × α)} {z : Str} {neg : Bool} {P : R → Prop} (p : P (.sh (.bl (if neg then !decide (z ∈ m.map (·.1)) else decide (z ∈ m.map (·.1)))))) : fInU neg (.str z) (.dk (dkv Sum.inr f m)) P := by
  refine ⟨.inr z, rfl, ?_⟩
  have e : (valD (dkv Sum.inr f m) (.inr z)).isSome = decide (z ∈ m.map (·.1)) := by
    rw [valD_dkv inr_inj, Option.isSome_map, Bool.eq_iff_iff, aget_mem, decide_eq_true_iff]
  have e2 : (valD (dkv Sum.inr f m) (.inr z)).isNone = !decide (z ∈ m.map (·.1)) := by rw [← e]; cases valD (dkv Sum.inr f m) (.inr z) <;> rfl
  rw [e, e2]
  exact p
theorem at_mk {α : Type} {f : α → D} {m : List (Int × α)} {n : Int} {a : α} {P : R → Prop} (h : aget m n = some a) (p : P (.sh (f a))) : fAt (.dk (dkv Sum.inl f m)) (.int n) P := at_I (by rw [valD_dkv inl_inj, h]; rfl) p
theorem at_ek {α : Type} {f : α → D} {m : List (Str × α)} {z : Str} {a : α} {P : R → Prop} (h : aget m z = some a) (p : P (.sh (f a))) : fAt (.dk (dkv Sum.inr f m)) (.str z) P := at_S (by rw [valD_dkv inr_inj, h]; rfl) p
theorem dict_pairs {α : Type} {κ : Type} [DecidableEq κ] {kj : κ → Key} (hj : ∀ a b, kj a = kj b → a = b) {f : α → D} {l : List (κ × α)} {P : R → Prop} {xs : List D} (hx : xs.map pairK = l.map fun q => some (kj q.1, f q.2)) (hn : (l.map (·.1)).Nodup) (p : P (.ow (.dk (dkv kj f l)))) : fDict (.lst xs) P := by
  refine ⟨l.map fun q => (kj q.1, f q.2), by rw [hx, List.map_map]; rfl, ?_⟩
  have go : ∀ (r acc : List (κ × α)), ((acc ++ r).map (·.1)).Nodup → mergeD (dkv kj f acc) (r.map fun q => (kj q.1, f q.2)) = dkv kj f (acc ++ r) := by
    intro r
    induction r with
    | nil => intro acc _; rw [List.append_nil]; rfl
    | cons q r ih =>
      intro acc hn
      show mergeD (putD (dkv kj f acc) (kj q.1) (f q.2)) _ = _
      rw [putD_dkv hj]
      have hq : q.1 ∉ acc.map (·.1) := fun hm => by
        rw [List.map_append, List.nodup_append] at hn
        exact hn.2.2 _ hm q.1 (by simp) rfl
      have e : aput acc q.1 q.2 = acc ++ [q] := by
        unfold aput
        rw [if_neg]
        intro z
        rw [List.any_eq_true] at z
        obtain ⟨x, hx, e⟩ := z
        exact hq (List.mem_map.mpr ⟨x, hx, of_decide_eq_true e⟩)
      rw [e, ih (acc ++ [q]) (by rw [List.append_assoc]; exact hn), List.append_assoc]
      rfl
  have := go l [] hn
  rw [show dkv kj f [] = [] from rfl, List.nil_append] at this
  rw [this]
  exact p
end DL
namespace DL
open PySem L2 PyProof.Rows
/-! ### sorted(xs), xs a tuple of numbers -/
theorem call_sortTup {X : Cx} (calm : X.calm = true) : CallR X (.builtin "sorted") (fun xs H Q => ∃ (a : Addr) (ns : List Int), xs = [.ref a] ∧ SqT X.K H a (ns.map V.int) ∧ ns.length ≤ 1000000 ∧
    ∀ (zs : List Int) (p : Addr), zs.Perm ns → zs.Pairwise (· ≤ ·) → H p = none → Q (.ref p) (upd H p (.lst (zs.map V.int)))) := by
  intro pins s σ H xs us Q I rx ⟨a, ns, hxs, hq, hn, kk⟩
  subst hxs
  obtain ⟨x, rfl, ra⟩ := vals1 rx
  cases ra
  obtain ⟨its, rv, ⟨o, h1, h2, m, h3⟩, _⟩ := I.tuple hq
  have fits : ns.length ≤ sizeLine := by rw [sizeLine_eq]; omega
  have hl : its.length = ns.length := by rw [← rv.length, List.length_map]
  refine Calls.call_function_entry kind_sorted plain_sorted entry_sorted (args_sorted1 _) (wpAny_bind (m := checkCount "sorted" 1 1 _) (wpAny_pure (wpAny_bind ?_)))
  refine wpAny_collect_seq a (.inr rfl) h1 h2 h3 (fun g hg => ?_) (by rw [List.size_toArray, hl]; exact fits)
  have hi : IntsAre its ns := rv.ints
  have I1 : Inv X pins σ H { s with heap := g } := I.kept (t' := s.toks) hg
  rw [show its.toArray.toList = its from rfl]
  refine wpAny_bind (wpAny_newList ?_ (by rw [hl]; exact fits))
  have hL := Heap.get?_push_size g (o := seqObj "list" its.toArray 0) rfl
  refine wpAny_bind (wpAny_holding (wpAny_call_entry slot_list_sort ⟨_, hL, rfl⟩ entry_list_sort (SrtO.list_sort_ord (s := { s with heap := g.push (seqObj "list" its.toArray 0) }) SrtO.swo_int hL (by rw [hl]; exact fits) (fun h => SrtO.ints_sortable hi h) fun zs q1 q2 => ⟨_, rfl, ?_⟩) (args_list_sort _)))
  obtain ⟨k1, k2, k3⟩ := SrtO.ints_out hi q1 q2
  obtain ⟨ep, hz⟩ := sortedHeap_at (vs := its) (out := zs.toArray) hL
  have zl : ((zs.map SrtO.iv).map V.int).length ≤ sizeLine := by rw [List.length_map, k2.length_eq]; exact fits
  refine wpAny_pure ⟨_, rfl, .ref g.objs.size, upd H g.objs.size (.lst ((zs.map SrtO.iv).map V.int)), I1.laid (t' := s.toks) (fun c u e => ?_) (Nat.le_refl _) (show ObjOk X.prog X.w _ _ _ (.lst ((zs.map SrtO.iv).map V.int)) from ⟨zl, zs, ep, vals_of_ints k1, hz⟩), rfl, kk _ _ k2 k3 (I1.hok.fresh (Nat.le_refl _))⟩
  have lt : c < g.objs.size := Heap.lt_size e
  rw [sortedHeap_old (Nat.ne_of_lt lt) (by rw [size_push']; exact Nat.lt_succ_of_lt lt)]
  exact Heap.get?_push_of_some _ e
section
variable {X : Cx} {b : Bg} {K : PySem.W.Frag}
/-- sorted of anything: lists, tuples of numbers, dicts -/
def fSortedV (d : D) (P : R → Prop) : Prop := match d with
  | .tup xs => ∃ ns : List Int, xs = ns.map .int ∧ ns.length ≤ 1000000 ∧ ordI ns P
  | d => fSortedU d P
theorem lc_sortedV : LC K (fun xs H Q => rSrtU K xs H Q ∨ (fun xs H Q => ∃ (a : Addr) (ns : List Int), xs = [.ref a] ∧ SqT K H a (ns.map V.int) ∧ ns.length ≤ 1000000 ∧
    ∀ (zs : List Int) (p : Addr), zs.Perm ns → zs.Pairwise (· ≤ ·) → H p = none → Q (.ref p) (upd H p (.lst (zs.map V.int)))) xs H Q) fSortedV := by
  intro b L G0 H0 G H σ e d x P Q g h hf k
  unfold fSortedV at hf
  split at hf
  · obtain ⟨ns, rfl, hn, q⟩ := hf
    obtain ⟨a, vs, rfl, ha, hr⟩ := h
    rw [repL_ints hr] at ha
    exact .inr ⟨a, ns, rfl, ha, hn, fun ys p pm so np => g.newL (repL_ints' ys) (q ys pm so) k p np⟩
  · exact .inl (lc_sortedU b L G0 H0 G H σ e _ x P Q g h hf k)
theorem d_sortedV {a : Expr} {u : DE} {p pos : Pos} (hm : X.mg "sorted" = none) (h1 : PD X b a u) (hc : X.calm = true := by rfl) (hg : Gl X "sorted" := by rfl) (hs : starEach (a :: []) X.env = (false, eval a X.env) :: starEach [] X.env := by rfl) (hpl : (backTo pos (starEach [] X.env)).any (·.1) = false := by rfl) :
    PD X b (.Call (.Name "sorted" p) [a] [] pos) (uB fSortedV u) := d_b1 (callR_or (callR_or (cr_srt hc) (call_sortBig hc)) (call_sortTup hc)) lc_sortedV hm (by decide +kernel) h1 hg (hs := hs) (hpl := hpl)
theorem sortV_mk {α : Type} {f : α → D} {m : List (Int × α)} {P : R → Prop} (h : m.length < 64) (p : P (.ow (.lst ((srtI (m.map (·.1))).map .int)))) : fSortedV (.dk (dkv Sum.inl f m)) P := .inl (fSorted_mk h p)
theorem sortV_ek {α : Type} {f : α → D} {m : List (Str × α)} {P : R → Prop} (h : m.length < 64) (p : P (.ow (.lst ((srtS (m.map (·.1))).map .str)))) : fSortedV (.dk (dkv Sum.inr f m)) P := .inl (fSorted_ek h p)
theorem sortV_I {zs : List Int} {P : R → Prop} (p : P (.ow (.lst ((srtI zs).map .int)))) : fSortedV (.lst (zs.map .int)) P := .inl (fSorted_I p)
theorem sortV_S {zs : List Str} {P : R → Prop} (h : zs.length < 64) (p : P (.ow (.lst ((srtS zs).map .str)))) : fSortedV (.lst (zs.map .str)) P := .inl (fSorted_S h p)
theorem sortV_T {zs : List Int} {P : R → Prop} (h : zs.length ≤ 1000000) (p : P (.ow (.lst ((srtI zs).map .int)))) : fSortedV (.tup (zs.map .int)) P := ⟨zs, rfl, h, fun ys h1 h2 => by rw [srtI_eq h1 h2]; exact p⟩
/-- any([..]) -/
def fAny (d : D) (P : R → Prop) : Prop := ∃ bs : List Bool, d = .lst (bs.map .bl) ∧ P (.sh (.bl (bs.any id)))
theorem lc_anyB : LC K (rAny K) fAny := by
  intro b L G0 H0 G H σ e d x P Q g h hf k
  obtain ⟨bs, rfl, hp⟩ := hf
  obtain ⟨a, vs, rfl, ha, hr⟩ := h
  rw [repL_bl hr] at ha
  exact ⟨a, bs, rfl, SqL.of ha, k _ (.sh (.bl _)) G H (Stp.refl g.ex) rfl hp⟩
theorem d_any {a : Expr} {u : DE} {p pos : Pos} (hm : X.mg "any" = none) (h1 : PD X b a u) (hc : X.calm = true := by rfl) (hg : Gl X "any" := by rfl) (hs : starEach (a :: []) X.env = (false, eval a X.env) :: starEach [] X.env := by rfl) (hpl : (backTo pos (starEach [] X.env)).any (·.1) = false := by rfl) :
    PD X b (.Call (.Name "any" p) [a] [] pos) (uB fAny u) := d_b1 (cr_any hc) lc_anyB hm (by decide +kernel) h1 hg (hs := hs) (hpl := hpl)
end
end DL
namespace DL
open PySem L2 PyProof.Rows PySem.Spec
/-! ### a caught exception, known -/
section
variable {X : Cx} {b : Bg} {K : PySem.W.Frag}
theorem repE_at {G : Hp} {n : Str} {y : D} : ∀ {fs : List (Str × D)} {vs : List (Str × V)}, RepE K G fs vs → fs.lookup n = some y → ∃ v, vs.lookup n = some v ∧ Rep K G y v
  | [], _, _, h => by cases h
  | (k, x) :: xs, vs, ⟨h1, h2⟩, h => by
    rw [List.lookup_cons] at h
    split at h
    · rename_i c
      cases h
      have e : n = k := by simpa using c
      subst e
      exact h1
    · exact repE_at h2 h
def tXo (K : PySem.W.Frag) (n : Str) (te : TE) : TE := fun σ H Q => te σ H fun x H1 => ∃ (a C dd : Addr) (fs : List (Str × V)) (v : V), x = .ref a ∧ H1 a = some (XO C dd a) ∧ H1 dd = some (.xd fs) ∧ XfC K C ∧ PySem.W.findIn K (.ref C) n = some none ∧ fs.lookup n = some v ∧ Q v H1
theorem pe_xo {e : Expr} {te : TE} {pos : Pos} {n : Str} (he : PE X e te) (hb : attributeBase e n X.env (eval e X.env) = eval e X.env := by rfl) : PE X (.Attribute e n pos) (tXo X.K n te) := by
  refine ⟨fun pins s σ H Q I h => ?_⟩
  refine attr_of hb (thn (he.run pins s σ H _ I h) fun u s1 hh => ?_)
  obtain ⟨x, H1, I1, rx, a, C, dd, fs, v, rfl, ha, hd, T, hno, l, q⟩ := hh
  obtain rfl : u = Value.ref a := rx
  obtain ⟨⟨oe, vs, e1, hz, e2⟩, _, _⟩ := I1.hok a _ ha
  obtain ⟨mA, hns, hr⟩ := (show ObjOk X.prog X.w H1 s1.heap dd (.xd fs) from I1.hok dd _ hd)
  obtain ⟨od, ho, hl⟩ := lookIn_ns hns
  obtain ⟨w, hw, rw'⟩ := RelO.some_of (v := v) (o := mA n) (by rw [← l]; exact hr n)
  have J : PySem.W.InstAt s1.heap a oe C (some od) := ⟨e1, hz.1, by unfold PySem.W.notCls; rw [e2] <;> rfl, by rw [hz.2]; exact ho⟩
  exact HandSPX.exc_get I1.kIn J T.ga T.gg T.exC (PySem.W.findObj_own T.hdC hno rfl (by rw [hl, hw])) (handed_of rw') ⟨v, H1, I1.tok _, rw', q⟩
/-- a field of a caught exception -/
def uXf (K : PySem.W.Frag) (n : Str) (u : DE) : DE := fun e P => u e fun r => ∃ C fs y, r = .sh (.exc C fs) ∧ XfC K C ∧ PySem.W.findIn K (.ref C) n = some none ∧ fs.lookup n = some y ∧ P (.sh y)
theorem d_xf {a : Expr} {u : DE} {pos : Pos} {n : Str} (h : PD X b a u) (hb : attributeBase a n X.env (eval a X.env) = eval a X.env := by rfl) : PD X b (.Attribute a n pos) (uXf X.K n u) := by
  obtain ⟨t, p, l⟩ := h
  refine ⟨_, pe_xo p hb, ?_⟩
  intro L G0 H0 G H σ e P Q g hu k
  refine l L G0 H0 G H σ e _ _ g hu fun v r G1 H1 s1 hr q => ?_
  obtain ⟨C, fs, y, rfl, T, hn, hl, hp⟩ := q
  obtain ⟨a, dd, vs, rfl, h1, h2, h3⟩ := RepR.top hr (g.step s1)
  obtain ⟨v, q1, q2⟩ := repE_at h3 hl
  exact ⟨a, C, dd, vs, v, rfl, h1, h2, T, hn, q1, k v (.sh y) G1 H1 s1 q2 hp⟩
end
/-! ### try: .. except C1 as n: .. except C2 as n: .. -/
section
variable {X : Cx} {pins : List (Addr × Obj)} {σ : L2.St} {H : Hp} {s : Shared}
/-- an object that was not there at the def's start is known from now on -/
theorem track {a : Addr} {o : HO} (I : Inv X pins σ H s) (na : H a = none) (n0 : X.s_0.heap.get? a = none) (nL : a ≠ X.env.locals) (nc : ∀ y c, X.env.cells.lookup y = some c → c ≠ a) (np : ∀ p ∈ X.pn ++ pins, p.1 ≠ a)
    (ok : ObjOk X.prog X.w (L2.upd H a o) s.heap a o) : Inv X pins σ (L2.upd H a o) s where
  ok := I.ok
  os := I.os
  bare := I.bare
  base := by
    have B := I.base
    have ne0 : ∀ b o, X.s_0.heap.get? b = some o → b ≠ a := fun b o e z => by rw [z, n0] at e; cases e
    exact {
      keep := B.keep
      slot := B.slot
      free := fun b o e n hx => by rw [upd_ne (ne0 b o e)]; exact B.free b o e n hx
      there := B.there
      tups := fun b xs e => by have q := B.tups b xs e; rw [upd_ne (ne_of_none q na)]; exact q
      frzs := fun b o u e => by have q := B.frzs b o u e; rw [upd_ne (ne_of_none q na)]; exact q
      tbls := fun b ps e => by obtain ⟨m, q⟩ := B.tbls b ps e; exact ⟨m, by rw [upd_ne (ne_of_none q na)]; exact q⟩ }
  loc := I.loc
  cell := I.cell
  free := by rw [upd_ne (Ne.symm nL)]; exact I.free
  freeC := fun y c e => by rw [upd_ne (nc y c e)]; exact I.freeC y c e
  pin := fun p hp => by
    obtain ⟨h1, h2, h3⟩ := I.pin p hp
    exact ⟨h1, by rw [upd_ne (np p hp)]; exact h2, h3⟩
  hok := L2.HOk.laidN I.hok (fun _ _ e => e) na ok
  len := I.len
theorem xo_ok {P : Program} {w : World} {h : Heap} {a C dd : Addr} {oe : Obj} {vs : Array Value} (e : h.get? a = some oe) (z : Zc (.ref C) (some dd) oe) (d : oe.data = .fields vs) : ObjOk P w H h a (XO C dd a) :=
  ⟨⟨oe, vs, e, z, d⟩, ⟨oe, e⟩, fun _ _ ⟨oe, vs, e, r⟩ k => ⟨oe, vs, k _ e, r⟩⟩
/-- the wish of two clauses of one reading: one of them takes the exception -/
def wTwo (K : PySem.W.Frag) (c1 c2 : Value) (m i : Nat) (ts : TS) (D : Ends) : WX := fun cls d σ H => (PySem.W.exmOne K cls c1 = some true ∨ (PySem.W.exmOne K cls c1 = some false ∧ PySem.W.exmOne K cls c2 = some true)) ∧
  ∃ C dd, cls = .ref C ∧ d = some dd ∧ (σ.length = m → ∀ a, H a = none → ts { nx := fun σ' H' => D.nx (σ'.set i none) H', rt := D.rt, bk := fun σ' H' => D.bk (σ'.set i none) H', ct := fun σ' H' => D.ct (σ'.set i none) H' } (σ.set i (some (.ref a))) (L2.upd H a (XO C dd a)))
end
section
variable {X : Cx} {x1 x2 n : Str} {c1 c2 : Value} {i : Nat} {body r1 r2 : List Stmt} {b1 b2 : Stmt} {np1 np2 p1 p2 pos : Pos} {tb : WX → TS} {ts : TS}
/-- an exception on the ground: one clause is asked, the next ones behind it -/
theorem clause {pins : List (Addr × Obj)} {σ : L2.St} {H : Hp} {sI s : Shared} {B : Heap} {a : Addr} {cls : Value} {d : Option Addr} {D : Ends} {x : Str} {c : Value} {np p1 : Pos} {hds : List ExceptHandler} {bit : Bool} (hf : X.env.frame = some X.env.locals) (hx : X.ex = [])
    (hN : X.N.Nodup) (hi : X.N[i]? = some n) (hln : X.env.kindOf n = some .local) (hc : Names X x c) (hsu : ∀ (a : Addr) (pn : List (Addr × Obj)), PSs (X.suite a pn) (b1 :: r1) ts) (hs : X.stack = X.env :: X.outer)
    (I : Inv X pins σ H sI) (nb : ∀ b o, sI.heap.get? b = some o → b ∉ frs X.stack → B.get? b = some o) (up : sI.heap.UpToSlots s.heap) (os : s.os = sI.os) (ag : AllBare s.gens) (na : H a = none) (fl : HandSPX.FlyingZ B (X.env :: X.outer) a (Zc cls d) s.heap)
    (hb : PySem.W.exmOne X.K cls c = some bit)
    (yes : bit = true → ∃ C dd, cls = .ref C ∧ d = some dd ∧ ts { nx := fun σ' H' => D.nx (σ'.set i none) H', rt := D.rt, bk := fun σ' H' => D.bk (σ'.set i none) H', ct := fun σ' H' => D.ct (σ'.set i none) H' } (σ.set i (some (.ref a))) (L2.upd H a (XO C dd a)))
    (no : bit = false → wpAny (model X.prog X.w) X.A (handleBy (.ref a) X.env hds) (SP X pins D) X.xe s) :
    wpAny (model X.prog X.w) X.A (handleBy (.ref a) X.env (.ExceptHandler (some (.Name x np)) (some n) (b1 :: r1) p1 :: hds)) (SP X pins D) X.xe s := by
  have ok := I.ok
  obtain ⟨hp, gn, dr, tk, os'⟩ := s
  -- where the exception stands
  have apart : ∀ {h : Heap}, HandSPX.FlyingZ B (X.env :: X.outer) a (Zc cls d) h → a ∉ frs (X.env :: X.outer) := fun {h} f hm => by
    obtain ⟨oe, vs, he, _, hd⟩ := f.there
    obtain ⟨_, o', e', hnf⟩ := f.2.2.1.mem hm
    rw [he] at e'
    cases e'
    exact hnf _ hd
  have nst : a ∉ frs X.stack := by rw [hs]; exact apart fl
  have nL : a ≠ X.env.locals := fun z => apart fl (List.mem_filterMap.mpr ⟨X.env, List.mem_cons_self, by rw [hf, z]⟩)
  have nF : a ∉ X.fs := fun hm => by
    obtain ⟨e, he, q⟩ := List.mem_filterMap.mp hm
    exact apart fl (List.mem_filterMap.mpr ⟨e, List.mem_cons_of_mem _ he, q⟩)
  have nI : sI.heap.get? a = none := by
    cases q : sI.heap.get? a with
    | none => rfl
    | some o => have z := nb a o q nst; rw [fl.2.1] at z; cases z
  -- the state with the exception pinned, as the test sees it
  have land : ∀ {h : Heap}, HandSPX.FlyingZ B (X.env :: X.outer) a (Zc cls d) h → sI.heap.UpToSlots h → Inv X pins σ H ⟨h, gn, dr, tk, os'⟩ := fun {h} f u => I.landed nb f.1 u os ag
  have J := land fl up
  obtain ⟨oe, vs, he, hz, hd⟩ := fl.there
  have S := J.suite he hd na nL nF
  refine wpAny_handleBy_cons (codeAny_handlers_test ?_) (by intro q; cases q)
  have LT : PySem.W.Looks (model X.prog X.w) hp (typeOf (.ref a)) cls := fun A Q E s k q => wpAny_typeOf_ref (k _ _ he) (by rw [hz.1]; exact q)
  have LM := PySem.W.exm_one (M := model X.prog X.w) J.kIn LT hb
  have test : ∀ {Q : Value → Shared → Prop} {E : Value → Shared → Prop}, Q c ⟨hp, gn, dr, tk, os'⟩ → wpAny (model X.prog X.w) (X.A.mark (some (.ref a))) (eval (.Name x np) X.env) Q E ⟨hp, gn, dr, tk, os'⟩ := fun {Q E} q => by
    obtain ⟨hg, hdb, hm | ⟨hm, hv, hn⟩⟩ := hc
    · exact ld_glob (X := X.suite a ((a, oe) :: (X.pn ++ pins))) S hg hm q hdb
    · exact ld_blt (X := X.suite a ((a, oe) :: (X.pn ++ pins))) S hg hm hv q hn hdb
  refine test (LM.here ?_)
  cases bit with
  | false => exact no rfl
  | true =>
    obtain ⟨C, dd, rfl, rfl, wish⟩ := yes rfl
    refine codeAny_handlers_suite_as (HandSPX.lands_againZ fl fun h4 fl4 up4 => ?_)
    have J4 := land fl4 (up.trans up4)
    obtain ⟨oe4, vs4, he4, hz4, hd4⟩ := fl4.there
    have n0 : X.s_0.heap.get? a = none := by
      cases q : X.s_0.heap.get? a with
      | none => rfl
      | some o =>
        obtain ⟨o', e⟩ := I.base.there a o q (by rw [hx]; simp)
        rw [nI] at e
        cases e
    have J5 : Inv X pins σ (L2.upd H a (XO C dd a)) ⟨h4, gn, dr, tk, os'⟩ := track J4 na n0 nL (fun y c e z => by
      obtain ⟨v, o, ho, hdc⟩ := J4.cell y c e
      rw [z, he4] at ho
      cases ho
      rw [hd4] at hdc
      cases hdc) (fun p hp z => by
        obtain ⟨e, _⟩ := I.pin p hp
        rw [z, nI] at e
        cases e) (xo_ok he4 hz4 hd4)
    have S5 : Inv (X.suite a (X.pn ++ pins)) [] σ (L2.upd H a (XO C dd a)) ⟨h4, gn, dr, tk, os'⟩ := ⟨J5.ok.suite _ _, J5.os, J5.bare, J5.base, J5.loc, J5.cell, J5.free, J5.freeC, fun p hp => J5.pin p (by rwa [List.append_nil] at hp), J5.hok, J5.len⟩
    refine store_ok (X := X.suite a (X.pn ++ pins)) (v := .ref a) S5 hN hi (.inl hln) rfl (fun s6 S6 => ?_) (.inr hln)
    have back : ∀ {σ7 : L2.St} {H7 : Hp} {s7 : Shared}, Inv (X.suite a (X.pn ++ pins)) [] σ7 H7 s7 → Inv X pins σ7 H7 s7 := fun {σ7 H7 s7} K => ⟨ok, K.os, K.bare, K.base, K.loc, K.cell, K.free, K.freeC, fun p hp => K.pin p (by rw [List.append_nil]; exact hp), K.hok, K.len⟩
    refine wpAny_mono ((hsu a (X.pn ++ pins)).run [] s6 _ _ _ S6 wish) (fun f s7 h7 => ?_) (fun _ _ z => False.elim z)
    cases f with
    | ret u =>
      obtain ⟨v7, σ7, H7, S7, r7, q7⟩ := h7
      exact gone_ok (back S7) hN hi hln fun s8 J8 => ⟨_, _, _, J8, r7, q7⟩
    | next =>
      obtain ⟨σ7, H7, S7, q7⟩ := h7
      exact gone_ok (back S7) hN hi hln fun s8 J8 => ⟨_, _, J8, q7⟩
    | brk =>
      obtain ⟨σ7, H7, S7, q7⟩ := h7
      exact gone_ok (back S7) hN hi hln fun s8 J8 => ⟨_, _, J8, q7⟩
    | cont =>
      obtain ⟨σ7, H7, S7, q7⟩ := h7
      exact gone_ok (back S7) hN hi hln fun s8 J8 => ⟨_, _, J8, q7⟩
theorem ps_try2 (hs : X.stack = X.env :: X.outer) (hf : X.env.frame = some X.env.locals) (hx : X.ex = []) (hN : X.N.Nodup) (hi : X.N[i]? = some n) (hln : X.env.kindOf n = some .local) (hc1 : Names X x1 c1) (hc2 : Names X x2 c2)
    (hb : ∀ (W : WX) (pn : List (Addr × Obj)) (xe : Value → Shared → Prop), Takes (X.tr pn xe) W → PassesOwn (model X.prog X.w) X.A X.env xe → PSs (X.tr pn xe) body (tb W))
    (h1 : ∀ (a : Addr) (pn : List (Addr × Obj)), PSs (X.suite a pn) (b1 :: r1) ts) (h2 : ∀ (a : Addr) (pn : List (Addr × Obj)), PSs (X.suite a pn) (b2 :: r2) ts) :
    PS X (.Try body [.ExceptHandler (some (.Name x1 np1)) (some n) (b1 :: r1) p1, .ExceptHandler (some (.Name x2 np2)) (some n) (b2 :: r2) p2] [] [] pos) (fun D σ H => tb (wTwo X.K c1 c2 X.N.length i ts D) D σ H) := by
  refine ⟨fun pins s σ H D I h => wpAny_Try_except ?_⟩
  have ok := I.ok
  let hds : List ExceptHandler := [.ExceptHandler (some (.Name x1 np1)) (some n) (b1 :: r1) p1, .ExceptHandler (some (.Name x2 np2)) (some n) (b2 :: r2) p2]
  let air : Value → Shared → Prop := fun e s₁ => wpAny (model X.prog X.w) X.A (noteFrame e X.env) (fun _ s₂ => wpAny (model X.prog X.w) X.A (setFlight e none) (fun _ s₃ => wpAny (model X.prog X.w) X.A (handleBy e X.env hds) (SP X pins D) X.xe s₃) X.xe s₂) X.xe s₁
  have caught : Takes (X.tr (X.pn ++ pins) air) (wTwo X.K c1 c2 X.N.length i ts D) := fun u s' xx => by
    obtain ⟨a, B, sI, pins', σ', H', cls, d, rfl, J', nb, up, sky, na, os, ag, cl, C, dd, rfl, rfl, wish⟩ := xx
    have J : Inv X pins σ' H' sI := J'.ofTry ok
    refine Sky.land Zc.steady (by rw [ok.frames, hs]) hf (by rw [← hs]; exact sky) fun h3 fl3 up3 => ?_
    have w := wish J.len a na
    rcases cl with e1 | ⟨e1, e2⟩
    · exact clause hf hx hN hi hln hc1 h1 hs J nb (up.trans up3) os ag na fl3 e1 (fun _ => ⟨C, dd, rfl, rfl, w⟩) (fun z => by cases z)
    · exact clause hf hx hN hi hln hc1 h1 hs J nb (up.trans up3) os ag na fl3 e1 (fun z => by cases z) fun _ =>
        clause hf hx hN hi hln hc2 h2 hs J nb (up.trans up3) os ag na fl3 e2 (fun _ => ⟨C, dd, rfl, rfl, w⟩) (fun z => by cases z)
  refine wpAny_mono ((hb _ (X.pn ++ pins) air caught PassesOwn.looking).run [] s σ H D (I.toTry _) h) (fun f s1 hsp => ?_) (fun e s1 he => he)
  cases f with
  | ret u =>
    obtain ⟨v, σ', H', J', r, q⟩ := hsp
    exact ⟨v, σ', H', J'.ofTry ok, r, q⟩
  | next =>
    obtain ⟨σ', H', J', q⟩ := hsp
    exact wpAny_execs_nil ⟨σ', H', J'.ofTry ok, q⟩
  | brk =>
    obtain ⟨σ', H', J', q⟩ := hsp
    exact ⟨σ', H', J'.ofTry ok, q⟩
  | cont =>
    obtain ⟨σ', H', J', q⟩ := hsp
    exact ⟨σ', H', J'.ofTry ok, q⟩
end
end DL
namespace DL
open PySem L2 PyProof.Rows PySem.Spec
/-! ### defs that may be called while an exception is handled (no loop, no raise) -/
def Cool (A : Around) : Around := { A with handled := none }
/-- the context of such a def's body -/
def cxC (P : Program) (w : World) (K : PySem.W.Frag) (mg : Str → Option Value) (base : Heap) (N : List Str) (qual : Str) (scope : Scope) (f : Addr) (cd : Value) (A : Around) (outer : List Env) (s : Shared) (H : Hp) : Cx :=
  { (cxOf CX0 P w K mg base N qual scope f cd A outer s H E0).nox with calm := false }
structure FnC (P : Program) (w : World) (K : PySem.W.Frag) (mg : Str → Option Value) (base : Heap) (k : Nat) (f : Addr) (fd : FuncData) (ps : List Str) (sp : Sp) : Prop where
  len : ∀ vs H Q E, sp vs H Q E → vs.length = ps.length
  run : ∀ (A : Around) (outer : List Env) (s : Shared) (H : Hp) (args : Args) (us : List Value) (vs : List V) (Q : VK), Room k (Cool A) → Env0 P w K mg base A outer s H → BindsTo s fd args (ps.zip us) → Vals vs us → sp vs H Q E0 →
    codeAny (model P w) A (.call (.ref f) args) (CR CX0 outer P w H s Q E0) s
theorem fnC_of {P : Program} {w : World} {K : PySem.W.Frag} {mg : Str → Option Value} {base : Heap} {x qual : Str} {st : Stmt} {f : Addr} {fd : FuncData} {N ps : List Str} {k : Nat} {sp : Sp} (F : Fun K x qual st f fd) (S : FnScope N ps (defScope st)) (len : ∀ vs H Q E, sp vs H Q E → vs.length = ps.length)
    (hbody : ∀ (cdv : Value) (A : Around) (outer : List Env) (s : Shared) (H : Hp) (vs : List V) (Q : VK), Room k ((Cool A).deeper (envOfC qual (defScope st) s.heap.objs.size f cdv)) → sp vs H Q E0 →
      ∃ t, PSs (cxC P w K mg base N qual (defScope st) f cdv A outer s H) (defBody st) t ∧ t { nx := fun _ H' => Q .non H', rt := Q } (L2.start N vs) H) : FnC P w K mg base (k + 1) f fd ps sp := by
  obtain ⟨oc, od, kV, doc, pm, an, cdv, ct, osl, rfl, lk, hcd⟩ := F.ex
  refine ⟨len, fun A outer s H args us vs Q hr e0 hb r hsp => ?_⟩
  have mem : ∀ b o, base.get? b = some o → s.heap.get? b = some o := fun b o e => (e0.bs b o e).1
  have KX : K.In s.heap := e0.mod.kin.keeps mem
  have room : A.depth < recursionLimit := by have z := hr.dp; have z2 : (Cool A).depth = A.depth := rfl; omega
  refine codeAny_call_function room (KX _ _ lk) rfl S.co S.gen rfl (PySem.W.codeRec_of KX hcd) (hb _ _ _ _ ?_)
  refine wpAny_newFunctionEnv_cells S.kind (fun ⟨n, v⟩ hy => (S.par n (List.of_mem_zip hy).1).imp id fun q => ⟨q, PySem.W.cellsFrom_some _ _ _ (.inl q)⟩) fun env he s1 x => ?_
  subst he
  refine ⟨(e0.mod.nolimit.keeps mem).keeps x.toInCall.keep, codeAny_func ?_⟩
  obtain ⟨t, ht, hq⟩ := hbody cdv A outer s H vs Q (hr.deeper _) hsp
  have ec : Env0 P w K mg base (Cool A) outer s H := ⟨e0.frames, e0.mod, e0.bs, e0.bsz, e0.funs, e0.frf, e0.hok, e0.bare⟩
  have J : Inv (cxOf CX0 P w K mg base N qual (defScope st) f cdv (Cool A) outer s H E0) [] (L2.start N vs) H s1 := inv_start S rfl ec (len _ _ _ _ hsp) r x
  have o := J.ok
  have I : Inv (cxC P w K mg base N qual (defScope st) f cdv A outer s H) [] (L2.start N vs) H s1 :=
    ⟨⟨o.mod, o.kind, o.glob, o.blt, o.above, o.inj, o.has, o.cab, (fun z => absurd (show false = true from z) Bool.false_ne_true), Around.frames_deeper e0.frames, o.stk, o.exf, o.bs, o.bsz, o.noex, o.exfs, o.funs, o.frf⟩, J.os, J.bare, J.base, J.loc, J.cell, J.free, J.freeC, J.pin, J.hok, J.len⟩
  refine wpAny_mono (ht.run [] s1 (L2.start N vs) H _ I hq) (fun fl s' hs => ?_) fun e s' hs => False.elim hs
  cases fl with
  | ret u =>
    obtain ⟨v, σ', H', K', rv, q⟩ := hs
    exact ⟨v, H', K'.os, K'.bare, K'.base, K'.hok, rv, q⟩
  | next =>
    obtain ⟨σ', H', K', q⟩ := hs
    exact ⟨.non, H', K'.os, K'.bare, K'.base, K'.hok, rfl, q⟩
  | brk => exact False.elim hs.choose_spec.choose_spec.2
  | cont => exact False.elim hs.choose_spec.choose_spec.2
/-- such a def at its name -/
structure KnownF (P : Program) (w : World) (K : PySem.W.Frag) (mg : Str → Option Value) (base : Heap) (x : Str) (k : Nat) (ps : List Str) (sp : Sp) : Prop where
  ex : ∃ f fd, FnC P w K mg base k f fd ps sp ∧ mg x = some (.ref f) ∧ PySem.W.keepIn K (.ref f) = true ∧ Binds K fd ps []
theorem fn_dataC {P : Program} {w : World} {K : PySem.W.Frag} {mg : Str → Option Value} {base : Heap} {x qual : Str} {st : Stmt} {f : Addr} {fd : FuncData} {N ps : List Str} {k : Nat} {fs : FS} {u : DS} (F : Fun K x qual st f fd) (S : FnScope N ps (defScope st)) (len : ∀ ds P, fs ds P → ds.length = ps.length)
    (hb : ∀ (b : Option Addr) (cdv : Value) (A : Around) (outer : List Env) (s : Shared) (H : Hp), Room k ((Cool A).deeper (envOfC qual (defScope st) s.heap.objs.size f cdv)) → PDSs (cxC P w K mg base N qual (defScope st) f cdv A outer s H) (bN b) (defBody st) u)
    (hu : ∀ ds P, fs ds P → u ⟨fun _ => P (.sh .non), fun r _ => P r, fun _ => False, fun _ => False⟩ (env0 N ds)) : FnC P w K mg base (k + 1) f fd ps (spN K fs) := by
  refine fnC_of F S (fun vs H Q E h => ?_) (fun cdv A outer s H vs Q hr h => ?_)
  · obtain ⟨G, ds, P, _, hr, hf, _⟩ := h
    rw [hr.length]; exact len ds P hf
  · obtain ⟨G, ds, P', ex, hds, hf, kk⟩ := h
    obtain ⟨t, p, l⟩ := (hb none cdv A outer s H hr).ex
    refine ⟨t, p, l [] G H G H _ _ ⟨fun _ => P' (.sh .non), fun r _ => P' r, fun _ => False, fun _ => False⟩ _ (good0 (N := N) ex hds) ⟨fun G' H' σ e g h => ?_, fun G' H' σ e v r g hr h => ?_, fun G' H' σ e g h => h.elim, fun G' H' σ e g h => h.elim⟩ (hu ds P' hf)⟩
    · exact kk .non (.sh .non) G' H' g.stp rfl h
    · exact kk v r G' H' g.stp hr h
section
variable {X : Cx} {K : PySem.W.Frag}
theorem pe_callC {x : Str} {k : Nat} {f : Addr} {fd : FuncData} {ps : List Str} {sp : Sp} {a : Addr} {pn : List (Addr × Obj)} {e : Expr} {es : List Expr} {t : TA} {p pos : Pos} (F : FnC X.prog X.w X.K X.mg X.base k f fd ps sp) (hr : Room k (Cool X.A)) (hg : Gl X x) (hm : X.mg x = some (.ref f)) (hk : PySem.W.keepIn X.K (.ref f) = true) (hb : Binds X.K fd ps [])
    (ha : PA (X.suite a pn) (e :: es) t) (hdb : (x == ("__debug__" : Str)) = false := by decide) (he : starEach (e :: es) (X.suite a pn).env = (false, eval e (X.suite a pn).env) :: starEach es (X.suite a pn).env := by rfl) (hpl : (backTo pos (starEach es (X.suite a pn).env)).any (·.1) = false := by rfl) :
    PE (X.suite a pn) (.Call (.Name x p) (e :: es) [] pos) (tCall sp [] E0 t) := by
  refine ⟨fun pins s σ H Q I h => wpAny_Call_Name_kw (ld_glob I hg hm ?_ hdb)⟩
  refine PySem.W.callWith_K (h₀ := X.base) I.ok.mod.kin hk (thn (ha.run pos pins s σ H _ I h) fun us s1 ⟨vs, H1, I1, r, q⟩ => ⟨I1.kIn, ?_⟩) he hpl
  have q : sp vs H1 Q E0 := by have z : sp (vs ++ []) H1 Q E0 := q; rwa [List.append_nil] at z
  have b := hb s1 us I1.kIn (by rw [List.append_nil, ← r.length]; exact F.len _ _ _ _ q)
  rw [List.append_nil] at b
  refine wpAny_call (codeAny_mono (F.run _ X.stack s1 H1 ⟨us, []⟩ us vs Q hr I1.env0 b r q) fun r s' hq => ?_)
  cases r with
  | error e => exact False.elim hq
  | ok fl =>
    cases fl with
    | ret u => exact I1.after hq
    | next => exact False.elim hq
    | brk => exact False.elim hq
    | cont => exact False.elim hq
end
end DL
namespace DL
open PySem L2 PyProof.Rows PySem.Spec LamX
/-! ### x(lambda: body): what its making does to the heap, to the letter -/
/-- the table at P may be longer by the one code object that is new -/
def LamStep (H H1 : Hp) (P : Addr) (q : Str) : Prop := H1 = H ∨ ∃ (ps ps' : Array Value) (c : Addr), H P = some (.tbl ps) ∧ H c = none ∧ H1 = L2.upd (L2.upd H P (.tbl ps')) c (CodeO c q) ∧ TriplesOk ps'.toList ∧
  ∀ (pos : Pos) (cv : Value), codeAmong pos ps'.toList = some cv → codeAmong pos ps.toList = some cv ∨ cv = .ref c
section
variable {X : Cx}
theorem lam_at {pins : List (Addr × Obj)} {σ : L2.St} {H : Hp} {s : Shared} {c P : Addr} {params : Arguments} {body : Expr} {scope : Scope} {pos : Pos} {E : Value → Shared → Prop} {Q : Value → Shared → Prop} (I : Inv X pins σ H s) (TB : TabB X.base X.mg c P) (hcode : X.env.code = .ref c)
    (hT : TabS H P (X.env.qual ++ "<lambda>")) (hdef : defaultsOf params X.env = ([], [])) (L : LamS X.env.scope scope)
    (k : ∀ (f c' : Addr) (pm ctv : Value) (H1 : Hp) (s' : Shared), Inv X pins σ H1 s' → LamStep H H1 P (X.env.qual ++ "<lambda>") →
      s'.heap.get? f = some (PySem.W.kla_obj "<lambda>" (X.env.qual ++ "<lambda>") params body scope (cloFrom X.env.cells scope.names []) pm c' ctv) → H1 f = none → f ∉ frs X.stack → H1 c' = some (CodeO c' (X.env.qual ++ "<lambda>")) → Q (.ref f) s') :
    wpAny (model X.prog X.w) X.A (eval (.Lambda params body scope pos) X.env) Q E s := by
  obtain ⟨ps, hP, ht, ha⟩ := hT
  have ok := closure_ok (L.has I.ok)
  have glob := I.mod.glob.keeps I.bk
  have code := TB.code.keeps I.bk
  have bP := TB.bm.keeps I.bk
  have oP : s.heap.get? P = some { cls := .none, data := .fields ps } := I.hok P _ hP
  have apart : ∀ {f : Addr}, s.heap.objs.size ≤ f → f ∉ frs X.stack := fun {f} hf z => by
    rcases List.mem_cons.mp (I.stkSub f z) with e | e
    · have h1 := I.lt
      rw [← e] at h1
      exact absurd (Nat.lt_of_lt_of_le h1 hf) (Nat.lt_irrefl _)
    · exact I.nofs hf e
  refine PySem.W.kla_eval hdef ?_
  cases hc : codeAmong pos ps.toList with
  | some cv =>
    obtain ⟨c', rfl, hco⟩ := ha pos cv hc
    refine PySem.W.kla_makeFunctionHit (mg := X.mg) (c := c) (P := P) (ps := ps) ok I.ok.glob glob hcode code oP ht hc bP fun ctv h' tk hx hsz => ?_
    exact k h'.objs.size c' ((X.mg "__name__").getD .none) ctv H _ (I.kept fun b o e => Heap.get?_push_of_some _ (hx b o e)) (.inl rfl) (Heap.get?_push_size _ rfl) (I.hok.fresh hsz) (apart hsz) hco
  | none =>
    refine PySem.W.kla_makeFunction (mg := X.mg) (c := c) (P := P) (ps := ps) ok I.ok.glob glob hcode code oP ht hc TB.gP bP fun c' ctv h' tk hx hge hlt hrec htb => ?_
    obtain ⟨_, oc, vs, t, e2, hoc, hd, hv⟩ := hrec
    cases e2
    have nC : H c' = none := I.hok.fresh hge
    have big : s.heap.objs.size ≤ h'.objs.size := Nat.le_trans hge (Nat.le_of_lt hlt)
    have up : ∀ b o, h'.get? b = some o → (h'.push (PySem.W.kla_obj "<lambda>" (X.env.qual ++ "<lambda>") params body scope (cloFrom X.env.cells scope.names []) ((X.mg "__name__").getD .none) c' ctv)).get? b = some o := fun b o e => Heap.get?_push_of_some _ e
    have J := inv_table (t' := tk) (more := #[rawInt pos.line, rawInt pos.col, .ref c']) I hP (fun b o hb e => up _ _ (hx b o hb e)) (up _ _ htb) hge ⟨oc, vs, t, up _ _ hoc, hd, hv⟩
    have eL : (ps ++ #[rawInt pos.line, rawInt pos.col, .ref c']).toList = ps.toList ++ [rawInt pos.line, rawInt pos.col, .ref c'] := by simp
    refine k h'.objs.size c' ((X.mg "__name__").getD .none) ctv _ _ J (.inr ⟨ps, _, c', hP, nC, rfl, by rw [eL]; exact PySem.TriplesOk_snoc _ _ _ _ ht, fun p' cv h => ?_⟩) (Heap.get?_push_size _ rfl) ?_ (apart big) upd_same
    · rw [eL] at h
      exact among_app _ ht h
    · rw [upd_ne (Nat.ne_of_gt hlt), upd_ne (Nat.ne_of_gt (Nat.lt_of_lt_of_le (Heap.lt_size oP) big))]
      exact I.hok.fresh big
theorem no_tm {P : Program} {w : World} {H : Hp} {h : Heap} {a : Addr} {q : Str} (o : ObjOk P w H h a (tm q)) : False := by
  obtain ⟨_, _, xs, r, _, _, _, _, _, _, _, nd⟩ := o
  cases r with
  | cons r1 r =>
    cases r with
    | cons r2 r =>
      rw [List.map_cons, List.map_cons, ← r1.1, ← r2.1] at nd
      simp at nd
/-- the reading of x(lambda: body): T, what x makes of the body's reading -/
def tLamS (P : Addr) (q : Str) (TT : (XK → Hp → VK → Prop) → Hp → VK → Prop) (t : XK → TE) : TE := fun σ H Q => (TabS H P q ∨ H P = some (tm q)) ∧ ∀ H1, LamStep H H1 P q → TT (fun E H' Q' => t E σ H' Q') H1 Q
theorem pe_lam {TT : (XK → Hp → VK → Prop) → Hp → VK → Prop} {x a : Str} {g c P : Addr} {k : Nat} {pg : Arguments} {bg : List Stmt} {sg : Scope} {dV kV doc pm cdv ct oc : Value} {an od : Option Addr} {osl : Array (Option Value)} {Ng : List Str}
    {params : Arguments} {body : Expr} {scope : Scope} {t : XK → TE} {p lpos pos : Pos} (hg : Gl X x) (hm : X.mg x = some (.ref g)) (hk : PySem.W.keepIn X.K (.ref g) = true)
    (lk : X.K.lookup g = some ⟨oc, od, .func (PySem.W.fnOf x x pg bg sg dV kV doc pm an cdv ct), osl⟩) (hcg : PySem.W.codeIn X.K cdv x = true) (hb : L2.Binds X.K (PySem.W.fnOf x x pg bg sg dV kV doc pm an cdv ct) [a] []) (Sg : FnScope Ng [a] sg) (hNg : Ng[0]? = some a) (hva : Vis sg a)
    (hG : GivesTo X Ng x sg g cdv bg a (X.env.qual ++ "<lambda>") TT) (TB : TabB X.base X.mg c P) (hcode : X.env.code = .ref c) (hr : Room (k + 2) X.A) (L : LamS X.env.scope scope) (hdef : defaultsOf params X.env = ([], []))
    (hbind : ∀ (q : Str) (cl : List (Str × Addr)) (pm cv ctv : Value), bindArgs (PySem.W.kla_fn "<lambda>" q params body scope cl pm cv ctv) ⟨[], []⟩ = pure [])
    (hbody : ∀ (A : Around) (outer : List Env) (s : Shared) (H : Hp) (E : XK) (f c' : Addr), Room k (A.deeper (lamEnv X scope s.heap.objs.size f c')) → PE (lamCx X A outer s H E scope f c') body (t E))
    (hdb : (x == ("__debug__" : Str)) = false := by decide) (hd : (a == ("__debug__" : Str)) = false := by decide) (hcd : (a == ("__classdict__" : Str)) = false := by decide) :
    PE X (.Call (.Name x p) [.Lambda params body scope lpos] [] pos) (tLamS P (X.env.qual ++ "<lambda>") TT t) := by
  refine ⟨fun pins s σ H Q I h => wpAny_Call_Name_kw (ld_glob I hg hm ?_ hdb)⟩
  obtain ⟨hT, h⟩ := h
  have hT : TabS H P (X.env.qual ++ "<lambda>") := hT.resolve_right fun z => no_tm (I.hok P _ z)
  refine PySem.W.callWith_K (h₀ := X.base) I.ok.mod.kin hk ?_ (by rfl) (by rfl)
  show wpAny _ _ (spliced ((false, eval (.Lambda params body scope lpos) X.env) :: backTo pos (starEach [] X.env))) _ _ s
  refine Calls.spliced_cons (lam_at I TB hcode hT hdef L fun f c' pm' ctv H1 s' I1 st hf hfn hfr hco => Calls.spliced_nil ⟨I1.kIn, ?_⟩)
  have rc := run_ofS (CX := C8.CX0) (A := X.A) (outer := X.stack) (s := s') (H := H1) (args := ⟨[.ref f], []⟩) (Q := Q) (E := C8.E0) (N := Ng) (ps := [a]) (us := [.ref f]) (vs := [.ref f]) lk hcg Sg hr I1.env0 (hb s' [.ref f] I1.kIn rfl) (.cons rfl .nil) rfl fun hr' => by
    obtain ⟨t', ht', hq'⟩ := hG f c' s' H1 Q (fun E H' Q' => t E σ H' Q') (fun W pn xe E p1 p2 tk hW => pe_act (i := 0) I1 L hf hfn hfr (hbind _ _ _ _ _) tk hW hr' (fun A outer s H hr2 => hbody A outer s H E f c' hr2) hNg hva hd hcd) hco (h H1 st)
    exact ⟨t', ht'.nox, hq'⟩
  refine wpAny_call (codeAny_mono rc fun r s2 hq => ?_)
  cases r with
  | error e => exact (show False from hq).elim
  | ok fl =>
    cases fl with
    | ret u => exact I1.after hq
    | next => exact False.elim hq
    | brk => exact False.elim hq
    | cont => exact False.elim hq
end
end DL
namespace DL
open PySem L2 PyProof.Rows PySem.Spec LamX
/-! ### def x(a): try: return ('', a()) / except X1 as n: return (n.code, fld(n)) / except X2 as n: the same -/
/-- what the handlers answer for the exception at a -/
def tSay (K : PySem.W.Frag) (FF : FS) (a : Addr) (H : Hp) (Q : VK) : Prop := ∃ (C dd : Addr) (fs : List (Str × V)) (v : V), H a = some (XO C dd a) ∧ H dd = some (.xd fs) ∧ XfC K C ∧ PySem.W.findIn K (.ref C) "code" = some none ∧ fs.lookup ("code" : Str) = some v ∧
  spN K FF [.ref a] H (fun y H2 => ∀ p, H2 p = none → Q (.ref p) (L2.upd H2 p (.tup [v, y]))) E0
def Caught (K : PySem.W.Frag) (C1 C2 : Addr) (cls : Value) : Prop := PySem.W.exmOne K cls (.ref C1) = some true ∨ (PySem.W.exmOne K cls (.ref C1) = some false ∧ PySem.W.exmOne K cls (.ref C2) = some true)
def TTr (K : PySem.W.Frag) (C1 C2 : Addr) (FF : FS) : (XK → Hp → VK → Prop) → Hp → VK → Prop := fun tl H Q =>
  tl (fun cls d H' => Caught K C1 C2 cls ∧ ∃ C dd, cls = .ref C ∧ d = some dd ∧ ∀ a, H' a = none → tSay K FF a (L2.upd H' a (XO C dd a)) Q) H fun v H' => [V.str "", v].length ≤ sizeLine ∧ ∀ p, H' p = none → Q (.ref p) (L2.upd H' p (.tup [.str "", v]))
/-- the def stands at its name -/
structure KnownT (P : Program) (w : World) (K : PySem.W.Frag) (mg : Str → Option Value) (base : Heap) (x : Str) (st : Stmt) (a x1 x2 fld : Str) (C1 C2 : Addr) (FF : FS) : Prop where
  ex : ∃ g fd, Fun K x x st g fd ∧ mg x = some (.ref g) ∧ Binds K fd [a] []
  m1 : mg x1 = some (.ref C1)
  m2 : mg x2 = some (.ref C2)
  F : ∃ pf, KnownF P w K mg base fld 2 [pf] (spN K FF)
theorem spN_mono {K : PySem.W.Frag} {FF : FS} {vs : List V} {H : Hp} {Q Q' : VK} {E : XK} (h : ∀ v H', Q v H' → Q' v H') (s : spN K FF vs H Q E) : spN K FF vs H Q' E := by
  obtain ⟨G, ds, P, h1, h2, h3, h4⟩ := s
  exact ⟨G, ds, P, h1, h2, h3, fun v r G' H' a b c => h _ _ (h4 v r G' H' a b c)⟩
section
variable {X : Cx} {b : Bg} {K : PySem.W.Frag}
theorem tried_gives {Ng : List Str} {x a n q x1 x2 fld pf : Str} {sg : Scope} {g C1 C2 : Addr} {cdg : Value} {FF : FS} {j j2 : Nat} {q1 q2 q3 q4 q5 q6 q7 q8 q9 q10 q11 q12 q13 q14 r6 r7 r8 r9 r10 r11 r12 r13 r14 q15 : Pos}
    (hNg : Ng = [a, n]) (nd : Ng.Nodup) (hln : sg.names.lookup n = some .local) (hc1 : sg.names.lookup x1 = some .globalImplicit) (hc2 : sg.names.lookup x2 = some .globalImplicit) (hcf : sg.names.lookup fld = some .globalImplicit)
    (hd1 : (x1 == ("__debug__" : Str)) = false) (hd2 : (x2 == ("__debug__" : Str)) = false) (hdf : (fld == ("__debug__" : Str)) = false) (hdn : (n == ("__debug__" : Str)) = false) (hdn2 : (n == ("__classdict__" : Str)) = false) (hab : ∀ (p : Pos) (env : Env) (ev : Sem Value), attributeBase (.Name n p) "code" env ev = ev)
    (m1 : X.mg x1 = some (.ref C1)) (m2 : X.mg x2 = some (.ref C2)) (F : KnownF X.prog X.w X.K X.mg X.base fld 2 [pf] (spN X.K FF)) (hr : ∀ s : Shared, Room 2 (Cool (X.A.deeper (envOfC x sg s.heap.objs.size g cdg)))) :
    GivesTo X Ng x sg g cdg [.Try [.Return (some (.Tuple [.Constant (.str "") j q1, .Call (.Name a q2) [] [] q3] j2 q4)) q5]
      [.ExceptHandler (some (.Name x1 q6)) (some n) [.Return (some (.Tuple [.Attribute (.Name n q7) "code" q8, .Call (.Name fld q9) [.Name n q10] [] q11] j2 q12)) q13] q14,
       .ExceptHandler (some (.Name x2 r6)) (some n) [.Return (some (.Tuple [.Attribute (.Name n r7) "code" r8, .Call (.Name fld r9) [.Name n r10] [] r11] j2 r12)) r13] r14] [] [] q15] a q (TTr X.K C1 C2 FF) := by
  subst hNg
  intro f c' s H Q tl act hc h
  obtain ⟨ff, fd, F, hm, hk, hb⟩ := F
  let Y : Cx := (cxOf C8.CX0 X.prog X.w X.K X.mg X.base [a, n] x sg g cdg X.A X.stack s H C8.E0).nox
  have hcf' : Gl Y fld := hcf
  have vn : Vis sg n := .inl hln
  refine ⟨_, pss_one (ps_try2 (X := Y) (i := 1) (n := n) (c1 := .ref C1) (c2 := .ref C2) (ts := tRet (tTup (tCons (tXo X.K "code" (tVar 1)) (tCons (tCall (spN X.K FF) [] E0 (tCons (tVar 1) tNil)) tNil)))) (tb := fun W D σ H => ∃ Ech : XK, (∀ cls d σ' H', Ech cls d H' → W cls d σ' H') ∧ σ[0]? = some (some (.ref f)) ∧ H c' = some (CodeO c' q) ∧ tl Ech H fun v H' => [V.str "", v].length ≤ sizeLine ∧ ∀ p, H' p = none → D.rt (.ref p) (L2.upd H' p (.tup [.str "", v])))
      rfl rfl rfl nd rfl hln ⟨hc1, hd1, .inl m1⟩ ⟨hc2, hd2, .inl m2⟩ (fun W pn xe tk _ => ?_)
      (fun a' pn => pss_one (ps_ret (pe_tup (pa_cons (pe_xo (pv (X := Y.suite a' pn) 1 rfl vn hdn hdn2) (hab _ _ _)) (pa_cons (pe_callC (X := Y) F (hr s) hcf' hm hk hb (pa_cons (pv (X := Y.suite a' pn) 1 rfl vn hdn hdn2) pa_nil) hdf) pa_nil)))))
      (fun a' pn => pss_one (ps_ret (pe_tup (pa_cons (pe_xo (pv (X := Y.suite a' pn) 1 rfl vn hdn hdn2) (hab _ _ _)) (pa_cons (pe_callC (X := Y) F (hr s) hcf' hm hk hb (pa_cons (pv (X := Y.suite a' pn) 1 rfl vn hdn hdn2) pa_nil) hdf) pa_nil)))))), ?_⟩
  · refine ⟨fun pins s' σ H' D I h' => ?_⟩
    obtain ⟨Ech, hW, h1, h2, h3⟩ := h'
    have hp := act W pn xe Ech q2 q3 tk hW
    have hq := pss_one (ps_ret (pos := q5) (pe_tup (pos := q4) (x1 := j2) (pa_cons (pe_str (x := "") (j := j) (pos := q1)) (pa_cons hp pa_nil))))
    exact hq.run pins s' σ H' D I ⟨h1, h2, h3⟩
  · refine ⟨_, fun cls d σ' H' hh => ?_, rfl, hc, h⟩
    obtain ⟨ca, C, dd, rfl, rfl, say⟩ := hh
    refine ⟨ca, C, dd, rfl, rfl, fun hl a' na => ?_⟩
    have hs1 : (σ'.set 1 (some (V.ref a')))[1]? = some (some (V.ref a')) := by
      have : σ'.length = 2 := hl
      rw [List.getElem?_set_self (by omega)]
    obtain ⟨C3, d3, fs, v, e1, e2, e3, e4, e5, sp⟩ := say a' na
    refine ⟨_, hs1, a', C3, d3, fs, v, rfl, e1, e2, e3, e4, e5, _, hs1, ?_⟩
    refine spN_mono (fun y H2 hh => ⟨by show 2 ≤ sizeLine; rw [sizeLine_eq]; decide, hh⟩) sp
/-- what is caught, what is said of it -/
def XOk (K : PySem.W.Frag) (C1 C2 C : Addr) : Prop := Caught K C1 C2 (.ref C) ∧ XfC K C ∧ PySem.W.findIn K (.ref C) "code" = some none
def xpT (K : PySem.W.Frag) (C1 C2 : Addr) (FF : FS) (P : R → Prop) : XD → Prop := fun x => XOk K C1 C2 x.1 ∧ (x.2.map (·.1)).Nodup ∧ ∃ d1, x.2.lookup ("code" : Str) = some d1 ∧ FF [.exc x.1 x.2] fun r => r.keep fun y => P (.sh (.tup [d1, y]))
def hideO : Sl → Sl
  | .own _ _ => .un
  | s => s
def uTried (K : PySem.W.Frag) (Pt : Addr) (q : Str) (C1 C2 : Addr) (FF : FS) (u : (XD → Prop) → DE) : DE := fun e P => nth e 0 = .sh (.tabl Pt q) ∧ u (xpT K C1 C2 FF P) (e.map hideO) fun r => r.keep fun d => P (.sh (.tup [.str "", d]))
theorem repE_of {G : Hp} {vs : List (Str × V)} : ∀ {fs : List (Str × D)}, (fs.map (·.1)).Nodup → (∀ f y, fs.lookup f = some y → ∃ v, vs.lookup f = some v ∧ Rep K G y v) → RepE K G fs vs
  | [], _, _ => trivial
  | (k, x) :: xs, nd, h => by
    have nd' : k ∉ xs.map (·.1) ∧ (xs.map (·.1)).Nodup := List.nodup_cons.mp nd
    refine ⟨h k x (by simp), repE_of nd'.2 fun f y e => h f y ?_⟩
    have hm : f ∈ xs.map (·.1) := List.mem_map.mpr ⟨(f, y), PySem.mem_of_lookup e, rfl⟩
    have ne : (f == k) = false := by
      cases c : f == k with
      | false => rfl
      | true => have e2 : f = k := by simpa using c
                rw [e2] at hm; exact absurd hm nd'.1
    rw [List.lookup_cons, ne]
    exact e
/-- the step of a lambda's making -/
theorem lam_stp {b : Option Addr} {G H H1 : Hp} {P : Addr} {q : Str} (ex : Ex G H) (hG : G P = some (tm q)) (hs : LamStep H H1 P q) : ∃ G1, Stp b [] G H G1 H1 := by
  rcases hs with rfl | ⟨ps, ps', c, hP, nc, rfl, ht, hcode⟩
  · exact ⟨G, Stp.refl ex⟩
  have gc : G c = none := ex.none nc
  have sub := sub_upd (o := CodeO c q) gc
  have nPc : P ≠ c := ne_of_none hP nc
  have tab : Tab3 G q ps := by
    rcases ex P _ hG with z | ⟨_, _, z, _⟩ | ⟨q', ps2, z, z2, z3⟩
    · rw [hP] at z; cases z
    · cases z
    · rw [hP] at z2
      cases z2
      rw [tm_inj z]
      exact z3
  have at_ : ∀ a, a ≠ P → a ≠ c → L2.upd (L2.upd H P (.tbl ps')) c (CodeO c q) a = H a := fun a h1 h2 => by rw [upd_ne h2, upd_ne h1]
  refine ⟨L2.upd G c (CodeO c q), sub, fun a o _ nm h => .inl ?_, fun a _ h hg => ?_, fun a o h => ?_, fun a _ hb => ?_⟩
  · rw [at_ a (fun z => nm q (by rw [z]; exact hG)) (ne_of_none h nc)]
    exact h
  · rw [upd_ne (fun z => h (by rw [z]; exact nc))]
    exact hg
  · by_cases z : a = c
    · subst z; rw [upd_same] at h ⊢; exact .inl h
    · rw [upd_ne z] at h
      by_cases y : a = P
      · subst y
        rw [hG] at h
        cases h
        refine .inr (.inr ⟨q, ps', rfl, by rw [upd_ne z, upd_same], ht, fun pos cv hc => ?_⟩)
        rcases hcode pos cv hc with w | w
        · exact (tab.mono sub).2 pos cv w
        · exact ⟨c, w, upd_same⟩
      · rw [at_ a y z]
        exact (ex a o h).mono sub
  · obtain ⟨h1, s, ns, i, n, z, h2, h3, h4⟩ := hb
    have na : a ≠ P := fun z => by rw [z, hG] at h1; cases h1
    have na2 : a ≠ c := ne_of_none h2 nc
    exact ⟨by rw [upd_ne na2]; exact h1, s, ns, i, n, z, by rw [at_ a na na2]; exact h2, sub _ _ h3, h4⟩
/-- the exception at a, known from now on -/
theorem exc_stp {b : Option Addr} {G H : Hp} {a C dd : Addr} (ex : Ex G H) (na : H a = none) : Stp b [] G H (L2.upd G a (XO C dd a)) (L2.upd H a (XO C dd a)) := Stp.laid ex na
theorem nth_map {f : Sl → Sl} {e : List Sl} {i : Nat} {x : Sl} (h : (e.map f)[i]? = some x) : ∃ y, e[i]? = some y ∧ f y = x := by
  rw [List.getElem?_map] at h
  cases q : e[i]? with
  | none => rw [q] at h; cases h
  | some y => rw [q] at h; exact ⟨y, rfl, Option.some.inj h⟩
theorem good_hide {L : Lk} {G0 H0 G H : Hp} {σ : L2.St} {e : List Sl} {E : XK} {xp : XD → Prop} (g : Good K b L G0 H0 G H σ e) (h : ∀ (x : XD) (cls : Value) (d : Option Addr) (G' H' : Hp), Stp b.a [] G H G' H' → XRep K G' H' x cls d → xp x → E cls d H') : Good K (bE b.a E xp) [] G H G H σ (e.map hideO) where
  stp := Stp.refl g.ex
  slot := fun i x hx => by
    obtain ⟨y, h1, rfl⟩ := nth_map hx
    have q := g.slot i y h1
    cases y with
    | un => trivial
    | sh d => exact q
    | own t o => trivial
    | bag => exact q
  inj := fun i j q q' o o' a h1 => by
    obtain ⟨y, _, h2⟩ := nth_map h1
    cases y <;> cases h2
  bag := g.bag
  lk := fun a od u m => by cases m
  len := by rw [List.length_map]; exact g.len
  xl := ⟨fun h => absurd rfl h, fun _ x cls d _ G' H' st hx hp => h x cls d G' H' st hx hp⟩
theorem d_tried {x a n x1 x2 fld : Str} {st : Stmt} {C1 C2 c P : Addr} {FF : FS} {k j j2 : Nat} {params : Arguments} {body : Expr} {scope : Scope} {u : (XD → Prop) → DE} {p lpos pos q1 q2 q3 q4 q5 q6 q7 q8 q9 q10 q11 q12 q13 q14 r6 r7 r8 r9 r10 r11 r12 r13 r14 q15 : Pos}
    (T : KnownT X.prog X.w X.K X.mg X.base x st a x1 x2 fld C1 C2 FF) (TB : TabB X.base X.mg c P) (hcode : X.env.code = .ref c) (hr : Room (k + 3) X.A)
    (hb : ∀ (xp : XD → Prop) (A : Around) (outer : List Env) (s : Shared) (H : Hp) (E : XK) (f c' : Addr), Room (k + 1) (A.deeper (lamEnv X scope s.heap.objs.size f c')) → L2.Takes (lamCx X A outer s H E scope f c') (bE b.a E xp).W → PD (lamCx X A outer s H E scope f c') (bE b.a E xp) body (u xp))
    (S : FnScope [a, n] [a] (defScope st))
    (hst : defBody st = [.Try [.Return (some (.Tuple [.Constant (.str "") j q1, .Call (.Name a q2) [] [] q3] j2 q4)) q5]
      [.ExceptHandler (some (.Name x1 q6)) (some n) [.Return (some (.Tuple [.Attribute (.Name n q7) "code" q8, .Call (.Name fld q9) [.Name n q10] [] q11] j2 q12)) q13] q14,
       .ExceptHandler (some (.Name x2 r6)) (some n) [.Return (some (.Tuple [.Attribute (.Name n r7) "code" r8, .Call (.Name fld r9) [.Name n r10] [] r11] j2 r12)) r13] r14] [] [] q15] := by rfl)
    (L : LamS X.env.scope scope := by exact lamS_by (by decide +kernel)) (hdef : defaultsOf params X.env = ([], []) := by rfl)
    (hbind : ∀ (q : Str) (cl : List (Str × Addr)) (pm cv ctv : Value), bindArgs (PySem.W.kla_fn "<lambda>" q params body scope cl pm cv ctv) ⟨[], []⟩ = pure [] := by intro _ _ _ _ _; rfl)
    (hln : (defScope st).names.lookup n = some .local := by decide +kernel) (hva : Vis (defScope st) a := by exact Or.inl (by decide +kernel)) (hc1 : (defScope st).names.lookup x1 = some .globalImplicit := by decide +kernel) (hc2 : (defScope st).names.lookup x2 = some .globalImplicit := by decide +kernel) (hcf : (defScope st).names.lookup fld = some .globalImplicit := by decide +kernel)
    (hg : Gl X x := by rfl) (hdb : (x == ("__debug__" : Str)) = false := by decide) (hd : (a == ("__debug__" : Str)) = false := by decide) (hcd : (a == ("__classdict__" : Str)) = false := by decide)
    (hd1 : (x1 == ("__debug__" : Str)) = false := by decide) (hd2 : (x2 == ("__debug__" : Str)) = false := by decide) (hdf : (fld == ("__debug__" : Str)) = false := by decide) (hdn : (n == ("__debug__" : Str)) = false := by decide) (hdn2 : (n == ("__classdict__" : Str)) = false := by decide) (hab : ∀ (p : Pos) (env : Env) (ev : Sem Value), attributeBase (.Name n p) "code" env ev = ev := by intro _ _ _; rfl) :
    PD X b (.Call (.Name x p) [.Lambda params body scope lpos] [] pos) (uTried X.K P (X.env.qual ++ "<lambda>") C1 C2 FF u) := by
  obtain ⟨⟨g, fd, F, hm, hbi⟩, m1, m2, pf, KF⟩ := T
  obtain ⟨oc, od, kV, doc, pm, an, cdv, ct, osl, rfl, lk, hcg⟩ := F.ex
  have qb : ∀ (xp : XD → Prop) (A : Around) (outer : List Env) (s : Shared) (H : Hp) (E : XK) (f c' : Addr), Room (k + 1) (A.deeper (lamEnv X scope s.heap.objs.size f c')) → ∃ t, PE (lamCx X A outer s H E scope f c') body t ∧ LE X.K (bE b.a E xp) t (u xp) :=
    fun xp A outer s H E f c' h => (hb xp A outer s H E f c' h (takes_of rfl rfl rfl rfl)).ex
  have G := tried_gives (X := X) (x := x) (a := a) (q := X.env.qual ++ "<lambda>") (g := g) (cdg := cdv) (j := j) (j2 := j2) (q1 := q1) (q2 := q2) (q3 := q3) (q4 := q4) (q5 := q5) (q6 := q6) (q7 := q7) (q8 := q8) (q9 := q9) (q10 := q10) (q11 := q11) (q12 := q12) (q13 := q13) (q14 := q14) (r6 := r6) (r7 := r7) (r8 := r8) (r9 := r9) (r10 := r10) (r11 := r11) (r12 := r12) (r13 := r13) (r14 := r14) (q15 := q15)
    rfl S.nd hln hc1 hc2 hcf hd1 hd2 hdf hdn hdn2 hab m1 m2 KF fun s => by
      have z : Room 2 (X.A.deeper (envOfC x (defScope st) s.heap.objs.size g cdv)) := ((hr.mono (by omega : 3 ≤ k + 3)).deeper _)
      exact ⟨rfl, z.dp, z.un⟩
  rw [← hst] at G
  refine ⟨_, pe_lam (t := fun E σ Hz Q => ∃ xp, ∀ (A : Around) (outer : List Env) (s : Shared) (H : Hp) (f c' : Addr) (h : Room (k + 1) (A.deeper (lamEnv X scope s.heap.objs.size f c'))), (qb xp A outer s H E f c' h).choose σ Hz Q) hg hm F.kp lk hcg hbi S rfl hva G TB hcode hr L hdef hbind
    (fun A outer s H E f c' h => ⟨fun pins s' σ Hz Q I ⟨xp, hh⟩ => (qb xp A outer s H E f c' h).choose_spec.1.run pins s' σ Hz Q I (hh A outer s H f c' h)⟩) hdb hd hcd, ?_⟩
  intro Lk G0 H0 Gx Hx σ e Pp Q gd hu kk
  obtain ⟨hT, hu⟩ := hu
  obtain ⟨v0, _, _, hGP⟩ := gd.slot 0 _ (nth_get hT (by simp))
  refine ⟨?_, fun H1 hs => ?_⟩
  · rcases gd.ex P _ hGP with z | ⟨_, _, z, _⟩ | ⟨q', ps, z, z2, z3⟩
    · exact .inr z
    · cases z
    · refine .inl ⟨ps, z2, z3.1, fun pos cv hc => ?_⟩
      obtain ⟨c', e1, e2⟩ := z3.2 pos cv hc
      rw [tm_inj z]
      refine ⟨c', e1, ?_⟩
      rcases gd.ex c' _ e2 with y | ⟨_, _, y, _⟩ | ⟨_, _, y, _⟩
      · exact y
      · cases y
      · cases y
  obtain ⟨G1, s1⟩ := lam_stp (b := b.a) gd.ex hGP hs
  have g1 := gd.step s1
  refine ⟨xpT X.K C1 C2 FF Pp, fun A outer s H f c' h => ?_⟩
  refine (qb _ A outer s H _ f c' h).choose_spec.2 [] G1 H1 G1 H1 σ (e.map hideO) _ _ (good_hide g1 fun y cls d G' H' st hy hp => ?_) hu fun v r G' H' st hr hp => ?_
  · obtain ⟨⟨ca, xf, fc⟩, nd, d1, l1, hF⟩ := hp
    obtain ⟨rfl, dd, fs, rfl, h1, h2, h3⟩ := hy
    refine ⟨ca, y.1, dd, rfl, rfl, fun a' na => ?_⟩
    have s2 : Stp b.a [] G' H' (L2.upd G' a' (XO y.1 dd a')) (L2.upd H' a' (XO y.1 dd a')) := exc_stp st.ex na
    have ndd : dd ≠ a' := ne_of_none h1 na
    obtain ⟨v, q1, q2⟩ := h3 _ _ l1
    refine ⟨y.1, dd, fs, v, upd_same, by rw [upd_ne ndd]; exact h1, xf, fc, q1, _, [.exc y.1 y.2], _, s2.ex, ⟨.ref a', [], rfl, ⟨a', dd, fs, rfl, upd_same, by rw [upd_ne ndd]; exact h2, (repE_of nd h3).mono s2.g⟩, rfl⟩, hF, fun w r G2 H2 s3 hr hp => ?_⟩
    obtain ⟨y2, G3, s4, hrep, py⟩ := hr.freeze s3 hp
    intro p np
    have s5 := Stp.laid (b := b.a) (o := .tup [v, w]) s4.ex np
    exact kk (.ref p) (.sh (.tup [d1, y2])) _ _ (((s1.trans st).trans s2).trans (s4.some.trans s5)) ⟨p, _, rfl, .inl upd_same, v, _, rfl, ((q2.mono s2.g).mono s4.g).mono s5.g, w, [], rfl, hrep.mono s5.g, rfl⟩ py
  · obtain ⟨d, G3, s4, hrep, pd⟩ := hr.freeze st hp
    refine ⟨by show 2 ≤ sizeLine; rw [sizeLine_eq]; decide, fun p np => ?_⟩
    have s5 := Stp.laid (b := b.a) (o := .tup [.str "", v]) s4.ex np
    exact kk (.ref p) (.sh (.tup [.str "", d])) _ _ ((s1.trans s4).trans s5) ⟨p, _, rfl, .inl upd_same, .str "", _, rfl, rfl, v, [], rfl, hrep.mono s5.g, rfl⟩ pd
end
end DL
namespace DL
open PySem L2 PyProof.Rows PySem.Spec LamX
/-! ### the law's own text, where it makes lambdas -/
abbrev lawLam : Str := ("law" : Str) ++ ".<locals>." ++ "<lambda>"
section
variable {K : PySem.W.Frag}
/-- the source's def keeps what stands -/
def spBagT (K : PySem.W.Frag) : Sp := fun vs H Q _ => ∃ (a : Addr) (ns : List Int), vs = [.ref a] ∧ SqL K H a (ns.map V.int) ∧ ns.length ≤ 63 ∧
  ∀ (H' : Hp) (p s : Addr) (ms : List Int) (z : Int), (∀ c o, H c = some o → H' c = some o) → H' p = some (.lst [.ref s, .int 0, .int 0, .int z]) → H' s = some (.lst (ms.map V.int)) → ms.length ≤ 63 → 0 ≤ z → z < 2147483549 → Q (.ref p) H'
def spLawT (K : PySem.W.Frag) (Pt : Addr) : Sp := fun vs H Q _ => ∃ (a : Addr) (ns : List Int), vs = [.ref a] ∧ SqL K H a (ns.map V.int) ∧ ns.length ≤ 63 ∧ H Pt = some (.tbl #[]) ∧ ∀ H', Q (.bl true) H'
variable {P : Program} {w : World} {mg : Str → Option Value} {base : Heap}
theorem law_textT {st : Stmt} {f c Pt : Addr} {q : Str} {N : List Str} {k : Nat} {u : DS} {rest : List Stmt} {x y s1 : Str} {p1 p2 p3 p4 p5 : Pos} {M : List Str} {oc kV doc pm ct : Value} {od an : Option Addr} {osl : Array (Option Value)} (hst : defBody st = .Assign [.Name y p1] (.Call (.Name x p2) [.Name s1 p3] [] p4) p5 :: rest) (hN : N = s1 :: y :: M)
    (lk : K.lookup f = some ⟨oc, od, .func (PySem.W.fnOf "law" "law" (defArgs st) (defBody st) (defScope st) .none kV doc pm an (.ref c) ct), osl⟩) (hcd : PySem.W.codeIn K (.ref c) "law" = true) (S : FnScope N [s1] (defScope st))
    (h0 : ∀ (A : Around) (outer : List Env) (s : Shared) (H : Hp) (E : XK), ∀ {t : TE}, PE (cxOf CX0 P w K mg base N "law" (defScope st) f (.ref c) A outer s H E).nox (.Call (.Name x p2) [.Name s1 p3] [] p4) t → PS (cxOf CX0 P w K mg base N "law" (defScope st) f (.ref c) A outer s H E).nox (.Assign [.Name y p1] (.Call (.Name x p2) [.Name s1 p3] [] p4) p5) (tAsg t (gName 1)))
    (h1 : ∀ (A : Around) (outer : List Env) (s : Shared) (H : Hp) (E : XK), Room k (A.deeper (envOfC "law" (defScope st) s.heap.objs.size f (.ref c))) → PE (cxOf CX0 P w K mg base N "law" (defScope st) f (.ref c) A outer s H E).nox (.Call (.Name x p2) [.Name s1 p3] [] p4) (tCall (spBagT K) [] E0 (tCons (tVar 0) tNil)))
    (hb : ∀ (b : Option Addr) (A : Around) (outer : List Env) (s : Shared) (H : Hp) (E : XK), Room k (A.deeper (envOfC "law" (defScope st) s.heap.objs.size f (.ref c))) → PDSs (cxOf CX0 P w K mg base N "law" (defScope st) f (.ref c) A outer s H E).nox (bN b) rest u)
    (hu : u ⟨fun _ => False, fun r _ => r = .sh (.bl true), fun _ => False, fun _ => False⟩ (.sh (.tabl Pt q) :: .bag :: List.replicate M.length .un)) : FnOk P w K mg base CX0 (k + 1) f (PySem.W.fnOf "law" "law" (defArgs st) (defBody st) (defScope st) .none kV doc pm an (.ref c) ct) [s1] (spLawT K Pt) := by
  refine fn_of lk hcd S (fun vs H Q E h => ?_) (fun A outer s H vs Q E hr h => ?_)
  · obtain ⟨a, ns, rfl, _⟩ := h; rfl
  obtain ⟨a, ns, rfl, hS, hl, hP0, kk⟩ := h
  have ql : ∀ b : Option Addr, ∃ t, PSs (cxOf CX0 P w K mg base N "law" (defScope st) f (.ref c) A outer s H E).nox rest t ∧ LS K (bN b) t u := fun b => (hb b A outer s H E hr).ex
  have pr : PSs (cxOf CX0 P w K mg base N "law" (defScope st) f (.ref c) A outer s H E).nox rest (fun D σ H => ∃ b, (ql b).choose D σ H) :=
    ⟨fun pins s' σ H' D I ⟨b, hh⟩ => (ql b).choose_spec.1.run pins s' σ H' D I hh⟩
  rw [hst]
  refine ⟨_, (pss_cons (h0 A outer s H E (h1 A outer s H E hr)) pr).nox, ?_⟩
  subst hN
  refine ⟨_, rfl, a, ns, rfl, hS, hl, fun H' p sa ms z stay hp hs hm z0 z1 => ?_⟩
  refine ⟨some p, ?_⟩
  have hPt : H' Pt = some (.tbl #[]) := stay _ _ hP0
  have np : p ≠ sa := ne_of hp hs (fun z => by
    injection z with z
    cases ms with
    | nil => cases z
    | cons m ms => rw [List.map_cons] at z; injection z with z; cases z)
  have nPs : sa ≠ Pt := ne_of hs hPt (by intro z; cases z)
  have nPp : p ≠ Pt := ne_of hp hPt (by intro z; cases z)
  have ex : Ex (L2.upd (L2.upd (fun _ => none) sa (.lst (ms.map V.int))) Pt (tm q)) H' := fun c' o h => by
    by_cases e : c' = Pt
    · subst e
      rw [upd_same] at h
      cases h
      exact .inr (.inr ⟨q, #[], rfl, hPt, True.intro, fun pos cv hc => by
        have z : codeAmong pos [] = some cv := hc
        simp [codeAmong] at z⟩)
    · rw [upd_ne e] at h
      by_cases e2 : c' = sa
      · subst e2; rw [upd_same] at h; cases h; exact .inl hs
      · rw [upd_ne e2] at h; cases h
  have es : (L2.start (s1 :: y :: M) [.ref a]).set 1 (some (.ref p)) = some (.ref a) :: some (.ref p) :: List.replicate M.length none := rfl
  show (ql (some p)).choose _ ((L2.start (s1 :: y :: M) [.ref a]).set 1 (some (.ref p))) H'
  rw [es]
  refine (ql (some p)).choose_spec.2 [] (L2.upd (L2.upd (fun _ => none) sa (.lst (ms.map V.int))) Pt (tm q)) H' (L2.upd (L2.upd (fun _ => none) sa (.lst (ms.map V.int))) Pt (tm q)) H' _ _ ⟨fun _ => False, fun r _ => r = .sh (.bl true), fun _ => False, fun _ => False⟩ _ ⟨⟨Stp.refl ex, fun i x e => ?_, fun i j t t' o o' c h1 _ _ _ => ?_, fun c hc => ?_, fun c od u m => (by cases m), ?_⟩, xl_n⟩
    ⟨fun G' H' σ e g h => h.elim, fun G' H' σ e v r g hr h => ?_, fun G' H' σ e g h => h.elim, fun G' H' σ e g h => h.elim⟩ hu
  · match i with
    | 0 => cases e; exact ⟨.ref a, rfl, ⟨a, rfl⟩, upd_same⟩
    | 1 => cases e; exact ⟨p, rfl, rfl⟩
    | i + 2 =>
      have e' : (List.replicate M.length Sl.un)[i]? = some x := e
      rw [List.getElem?_replicate] at e'
      split at e'
      · cases e'; trivial
      · cases e'
  · match i with
    | 0 => cases h1
    | 1 => cases h1
    | i + 2 =>
      have e' : (List.replicate M.length Sl.un)[i]? = some (.own t o) := h1
      rw [List.getElem?_replicate] at e'
      split at e' <;> cases e'
  · cases hc
    exact ⟨by rw [upd_ne nPp, upd_ne np], sa, ms, 0, 0, z, hp, by rw [upd_ne nPs, upd_same], Nat.zero_le _, hm, Int.le_refl 0, z0, z1⟩
  · simp
  · subst h
    cases hr
    exact kk H'
end
/-- the end of a law that makes lambdas -/
theorem walk_T {l : PySem.W.OpenLaw} {n k : Nat} {q : Program} {loose : List Str} {XP : (Str → Option Value) → Heap → Prop} {YP : World → Heap → Prop} {d : DefRec} {K : Params → PySem.W.Frag} {x : Str}
    (hn : l.most = some n) (hn2 : n ≤ 63) (hdf : d.params.defaults = []) (hr : Room k callerA) (hY : ∀ (w : World) (h : Heap), YP w h → (K w.params).In h) (hd : (recsOf q).find? (fun e => e.name == d.name) = some d)
    (F : ∀ (w : World) (mg : Str → Option Value) (fa : Addr) (h : Heap), (K w.params).In h → h.Ns mainGlobals mg → mg d.name = some (.ref fa) →
      ∃ (fd : FuncData) (c P : Addr), PySem.W.tabIn (K w.params) d.name = some (c, P) ∧ (K w.params).lookup P = none ∧ (∀ (s : Shared) (u : Value), BindsTo s fd ⟨[u], []⟩ [(x, u)]) ∧
        ∀ base : Heap, (K w.params).In base → base.Ns mainGlobals mg → TabB base mg c P → FnOk l.prog w (K w.params) mg base CX0 k fa fd [x] (spLawT (K w.params) P)) :
    PySem.W.WalkO q loose XP YP l.row.toRowW d [] (fun f vs => PySem.call f vs) := by
  refine Att.attach_callB hn hdf fun w s₀ s₁ mg mb fa o pm cd doc a vs ns G Y ho hdo hcd hmg hobj hints hlen hbits hg => ?_
  have KX := hY w _ Y
  obtain ⟨fd, c, P, ht, nP, hb, hF⟩ := F w mg fa _ KX G.T.g hmg
  obtain ⟨C, oP⟩ := PySem.W.tab_of G.T KX hd ht
  refine law_callTs (cs := [(c, P)]) (sp := spLawT (K w.params) P) (CX := CX0) KX G.T.g G.T.b G.T.builtins G.T.nolimit hg (fun p hp => ?_) (fun p hp => ?_) (fun p hp => ?_) G.T.bmain hobj hints (Nat.le_trans hlen (Nat.le_trans hn2 (by rw [sizeLine_eq]; decide))) hr (fun base h1 h2 h3 => hF base h1 h2 (h3 _ (List.mem_singleton.mpr rfl))) hb (fun H hH hS => ⟨a, ns, rfl, hS, Nat.le_trans hlen hn2, hH _ (List.mem_singleton.mpr rfl), fun _ => rfl⟩) fun _ _ _ z => z
  · rw [List.mem_singleton.mp hp]; exact oP
  · rw [List.mem_singleton.mp hp]; exact nP
  · rw [List.mem_singleton.mp hp]; exact C
end DL
namespace DL
open PySem L2 PyProof.Rows PySem.Spec LamX
/-! ### what the written part says of error classes and of the law's table -/
section
variable {K : PySem.W.Frag}
theorem tabIn_mk {x : Str} {f c P : Addr} {oc oc2 : Value} {od od2 : Option Addr} {fd : FuncData} {osl osl2 : Array (Option Value)} {vs : Array Value} (a : PySem.W.nsIn K mainGlobals x = some (some (.ref f))) (l : K.lookup f = some ⟨oc, od, .func fd, osl⟩) (e : fd.code = .ref c) (lc : K.lookup c = some ⟨oc2, od2, .fields vs, osl2⟩) (v : vs[11]? = some (.ref P)) : PySem.W.tabIn K x = some (c, P) := by
  unfold PySem.W.tabIn
  rw [a]
  simp only
  rw [l]
  simp only
  rw [e]
  simp only
  rw [lc]
  simp only
  rw [v]
theorem xf_mk {C : Addr} (h1 : PySem.W.findIn K (.ref C) "__getattribute__" = some (some (.builtin "BaseException.__getattribute__"))) (h2 : PySem.W.findIn K (.ref C) "__getattr__" = some none) (h3 : PySem.W.subIn K (.ref C) (.type "BaseException") = some true) (h4 : PySem.W.hasDictIn K C = true) : XfC K C := ⟨h1, h2, h3, h4⟩
/-- an error class under C1 -/
theorem xok1 {C1 C2 C : Addr} (b1 : PySem.W.subIn K (.ref C1) (.type "BaseException") = some true) (d1 : PySem.W.hasDictIn K C1 = true) (t1 : PySem.W.typeIn K (.ref C1) = some (.type "type")) (s1 : PySem.W.subIn K (.ref C) (.ref C1) = some true) (xf : XfC K C) (n : PySem.W.findIn K (.ref C) "code" = some none) : XOk K C1 C2 C :=
  ⟨.inl (PySem.W.exm_ref b1 d1 t1 s1), xf, n⟩
/-- an error class under C2 -/
theorem xok2 {C1 C2 C : Addr} (b1 : PySem.W.subIn K (.ref C1) (.type "BaseException") = some true) (d1 : PySem.W.hasDictIn K C1 = true) (t1 : PySem.W.typeIn K (.ref C1) = some (.type "type")) (s1 : PySem.W.subIn K (.ref C) (.ref C1) = some false)
    (b2 : PySem.W.subIn K (.ref C2) (.type "BaseException") = some true) (d2 : PySem.W.hasDictIn K C2 = true) (t2 : PySem.W.typeIn K (.ref C2) = some (.type "type")) (s2 : PySem.W.subIn K (.ref C) (.ref C2) = some true) (xf : XfC K C) (n : PySem.W.findIn K (.ref C) "code" = some none) : XOk K C1 C2 C :=
  ⟨.inr ⟨PySem.W.exm_ref b1 d1 t1 s1, PySem.W.exm_ref b2 d2 t2 s2⟩, xf, n⟩
theorem hu_c {k n : Nat} {A : Around} {env : Env} (hr : Room k ((Cool A).deeper env)) (hn : n ≤ 64 := by decide) : (A.deeper env).units + n < cLine := by
  have h1 := hr.un
  have h2 : ((Cool A).deeper env).units = (A.deeper env).units := rfl
  omega
theorem e_hm0 : List.map hideO [] = [] := rfl
theorem e_hm1 {x : Sl} {xs : List Sl} : List.map hideO (x :: xs) = hideO x :: List.map hideO xs := rfl
theorem e_hsh {d : D} : hideO (.sh d) = .sh d := rfl
theorem e_hun : hideO .un = .un := rfl
theorem e_hown {q : Option Addr} {o : OD} : hideO (.own q o) = .un := rfl
theorem e_hbag : hideO .bag = .bag := rfl
/-- an __init__ of the text -/
theorem fun_mkI {x qual : Str} {st : Stmt} {f : Addr} {oc : Value} {od an : Option Addr} {osl : Array (Option Value)} {kV doc pm cdv ct : Value} (l : K.lookup f = some ⟨oc, od, .func (PySem.W.fnOf x qual (defArgs st) (defBody st) (defScope st) .none kV doc pm an cdv ct), osl⟩) (c : PySem.W.codeIn K cdv qual = true) (k : PySem.W.keepIn K (.ref f) = true) : Fun K x qual st f (PySem.W.fnOf x qual (defArgs st) (defBody st) (defScope st) .none kV doc pm an cdv ct) :=
  ⟨⟨oc, od, kV, doc, pm, an, cdv, ct, osl, rfl, l, c⟩, k⟩
end
end DL
namespace DL
open PySem L2 PyProof.Rows
/-! ### enumerate(text) -/
theorem enum_text {prog : Program} {w : World} {A : Around} {E : Value → Shared → Prop} {s : Shared} {x : Str} {t : Tok} {Q : Value → Shared → Prop}
    (h : ∀ h', IsEnum h' (s.heap.objs.size + 1) s.heap.objs.size 0 .none → h'.IsStrIter s.heap.objs.size (strIterType x) x t 0 → (∀ c u, s.heap.get? c = some u → h'.get? c = some u) → Q (.ref (s.heap.objs.size + 1)) { s with heap := h' }) : wpAny (model prog w) A (call (.type "enumerate") [.str x t]) Q E s := by
  have B := begins_text x t
  have sz : (s.heap.push { cls := .type (strIterType x), data := .fields #[.str x t, .int 0 0] }).objs.size = s.heap.objs.size + 1 := Heap.size_push ..
  refine callType_new F.called_enumerate (by decide) (F.typeCall_enumerate_1 _) (F.newCall_enumerate_1 _) (fun obj => F.args_object_init_2 obj _) F.entry_enumerate_new (enum_new1 B) ⟨trivial, ?_⟩
  show _ ∧ _
  rw [sz]
  have en : IsEnum ((s.heap.push { cls := .type (strIterType x), data := .fields #[.str x t, .int 0 0] }).push { cls := .type "enumerate", data := .fields #[.none, .bool false, .ref s.heap.objs.size, rawInt 0, .none, .none] }) (s.heap.objs.size + 1) s.heap.objs.size 0 .none := by
    rw [← sz]
    exact Heap.get?_push_size _ rfl
  exact ⟨⟨_, en, rfl⟩, h _ en ⟨_, Heap.get?_push_of_some _ (Heap.get?_push_size _ B.free), rfl, rfl⟩ fun c u x => Heap.get?_push_of_some _ (Heap.get?_push_of_some _ x)⟩
def IteS (x : Str) : It :=
  ⟨fun i _ => i < x.cps.size, fun i H v H' => ∃ (T : Addr) (c : Nat), v = .ref T ∧ H T = none ∧ H' = upd H T (.tup [.int (i : Nat), .str ⟨#[c]⟩]) ∧ x.cps[i]? = some c, fun i _ => x.cps.size ≤ i⟩
theorem turn_enumS {P : Program} {w : World} {K : PySem.W.Frag} {elts : List Expr} {kk : Nat} {tpos : Pos} {x : Str} {tx : Tok} (e it : Addr) :
    Turn P w K (.Tuple elts kk tpos) (IteS x) [e, it] e (fun i h => (∃ old, IsEnum h e it ((i : Nat) : Int) old) ∧ h.IsStrIter it (strIterType x) x tx i ∧ e ≠ it ∧ i ≤ x.cps.size) where
  mem := List.mem_cons_self
  obj := fun i h ⟨⟨old, he⟩, hs, _⟩ c hc => by
    rcases List.mem_cons.mp hc with rfl | hc
    · exact ⟨_, he, fun v q => nomatch q⟩
    · rw [List.mem_singleton.mp hc]
      exact strIter_obj hs
  keep := fun i h h' ⟨⟨old, he⟩, hi, ne, l⟩ k => ⟨⟨old, k e List.mem_cons_self _ he⟩, strIter_keep hi fun o q => k it (by simp) o q, ne, l⟩
  item := by
    intro X hP hw hK hc i pins s σ H E I hf ⟨⟨old, he⟩, hit, ne, l⟩ hg
    subst hP; subst hw; subst hK
    have le : e < s.heap.objs.size := Heap.lt_size he
    have li : it < s.heap.objs.size := by obtain ⟨_, q, _⟩ := hit; exact Heap.lt_size q
    refine wpAny_pyNext_enum_itemC (Draws.text (A := X.A.in1) (show X.A.in1.handled = none from I.ok.hd hc) it x tx) he hit hg ne (by simp [ne]) fun y h1 tk hy out st hT hsz hk => ?_
    obtain ⟨c, t1, hcx, rfl⟩ := hy
    refine ⟨_, rfl, wpAny_letOwnedTupleGo_enum (s := { s with heap := h1, toks := tk + 1 }) out fun h2 he2 sb => ?_⟩
    have hT2 : h2.get? s.heap.objs.size = some { cls := .type "tuple", data := .seq #[.int i tk, .str ⟨#[c]⟩ t1] } := (sb.2 _ (Nat.ne_of_gt le)).trans hT
    have new : ObjOk X.prog X.w (upd H s.heap.objs.size (.tup [.int (i : Nat), .str ⟨#[c]⟩])) h2 s.heap.objs.size (.tup [.int (i : Nat), .str ⟨#[c]⟩]) :=
      ⟨by show 2 ≤ sizeLine; rw [sizeLine_eq]; decide, [.int i tk, .str ⟨#[c]⟩ t1], .cons ⟨_, rfl⟩ (.cons ⟨_, rfl⟩ .nil), ⟨_, hT2, rfl, _, rfl⟩⟩
    have I1 : Inv X pins σ (upd H s.heap.objs.size (.tup [.int (i : Nat), .str ⟨#[c]⟩])) { s with heap := h2, toks := tk + 1 } :=
      I.turnedNew (ch := [e, it]) (fun c ob hc q => (sb.2 c (fun z => hc (by simp [z]))).trans (hk c ob (fun z => hc (by simp [z])) (fun z => hc (by simp [z])) q)) hf (Nat.le_refl _) new
    refine ⟨.ref s.heap.objs.size, _, I1, rfl, ⟨_, c, rfl, I.hok.fresh (Nat.le_refl _), rfl, hcx⟩, ⟨⟨.str ⟨#[c]⟩ t1, ?_⟩, strIter_keep st fun o q => (sb.2 it (Ne.symm ne)).trans q, ne, hg⟩, fun c hc => ?_⟩
    · rw [show ((i + 1 : Nat) : Int) = (i : Int) + 1 by omega]
      exact he2
    · have lc : c < s.heap.objs.size := by
        rcases List.mem_cons.mp hc with rfl | hc
        · exact le
        · rw [List.mem_singleton.mp hc]; exact li
      rw [upd_ne (Nat.ne_of_lt lc)]
      exact (hf c hc).1
  done := by
    intro X hP hw hK hc i pins s σ H E I hf ⟨⟨old, he⟩, hit, ne, l⟩ hx
    subst hP; subst hw; subst hK
    obtain ⟨f0, f1, f2, f3, f4, f5⟩ := hf it (by simp)
    have hi : i = x.cps.size := Nat.le_antisymm l hx
    subst hi
    exact wpAny_pyNext_enum_endD (Draws.text (A := X.A.in1) (show X.A.in1.handled = none from I.ok.hd hc) it x tx) he hit fun h1 eb => ⟨rfl, I.turnedL (t' := s.toks) (ch := [e, it]) (fun c ob hc q => eb c ob (fun z => hc (by simp [z])) q) hf⟩
  self := fun A i s Q E ⟨⟨_, he⟩, _⟩ h => wpAny_pyIter_enum he h
section
variable {X : Cx} {b : Bg} {K : PySem.W.Frag}
def iEnumS (ta : TA) : TI := fun σ H R => ta σ H fun vs H1 => ∃ x, vs = [.str x] ∧ R (IteS x) H1
theorem pi_enumS {e : Expr} {ta : TA} {p pos tpos : Pos} {elts : List Expr} {kk : Nat} (hg : Gl X "enumerate") (hm : X.mg "enumerate" = none) (ha : PA X [e] ta) (hs : starEach [e] X.env = [(false, eval e X.env)]) :
    PI X (.Tuple elts kk tpos) (.Call (.Name "enumerate" p) [e] [] pos) (iEnumS ta) := by
  constructor
  intro pins s σ H R I h
  refine Call_ (ld_blt I hg hm boot_enumerate (callWith_type1 (thn (ha.run pos pins s σ H _ I h) fun us s1 ⟨vs, H1, I1, r1, x, ex, q⟩ => ?_) hs rfl))
  subst ex
  obtain ⟨u, rfl, ru⟩ := vals1 r1
  obtain ⟨tx, rfl⟩ := ru
  have two : ∀ c : Addr, c ∈ [s1.heap.objs.size + 1, s1.heap.objs.size] → s1.heap.objs.size ≤ c := fun c hc => by
    rcases List.mem_cons.mp hc with rfl | hc
    · exact Nat.le_succ _
    · rw [List.mem_singleton.mp hc]; exact Nat.le_refl _
  refine enum_text fun h1 he hit hk => wpAny_pyIter_enum he ?_
  exact ⟨s1.heap.objs.size + 1, [s1.heap.objs.size + 1, s1.heap.objs.size], _, _, H1, rfl, I1.kept (t' := s1.toks) hk, turn_enumS (s1.heap.objs.size + 1) s1.heap.objs.size, ⟨⟨.none, he⟩, hit, Nat.succ_ne_self _, Nat.zero_le _⟩, fun c hc => I1.fpOk (two c hc) (I1.hok.fresh (two c hc)), q⟩
/-- enumerate(text) -/
def asSE (P : List D → Prop) : D → Prop
  | .str x => P (enums (signs x))
  | _ => False
def uEnumS (u : DE) : DI := fun e P => u e (R.keep (asSE P))
theorem jok_enumS {L : Lk} {G1 : Hp} {x : Str} : JOk K b L G1 (IteS x) (enums (signs x)) := fun G H sub ex _ i => by
  have hl : (enums (signs x)).length = x.cps.size := by rw [enums_len]; unfold signs; simp
  refine ⟨fun y hy => ?_, fun hi => ?_⟩
  · have lt := get_lt hy
    rw [hl] at lt
    refine ⟨lt, fun w H' ⟨T, c, e1, hT, e2, hc⟩ => ?_⟩
    subst e1; subst e2
    obtain ⟨z, hz, rfl⟩ := enums_get hy
    have s := sub_upd (o := .tup [.int (i : Int), .str ⟨#[c]⟩]) (ex.none hT)
    have ez : z = .str ⟨#[c]⟩ := by
      unfold signs at hz
      have e1 : x.cps.toList[i]? = some c := by rw [← hc]; simp
      rw [List.getElem?_map, e1] at hz
      exact (Option.some.inj hz).symm
    subst ez
    exact ⟨_, Stp.laid ex hT, T, _, rfl, .inl upd_same, _, _, rfl, rfl, _, _, rfl, rfl, rfl⟩
  · rw [hl] at hi
    exact hi
theorem di_enumS {a : Expr} {u : DE} {p pos tpos : Pos} {elts : List Expr} {kk : Nat} (hm : X.mg "enumerate" = none) (h : PD X b a u) (hg : Gl X "enumerate" := by rfl) (hs : starEach [a] X.env = [(false, eval a X.env)] := by rfl) : PDI X b (.Tuple elts kk tpos) (.Call (.Name "enumerate" p) [a] [] pos) (uEnumS u) := by
  obtain ⟨t, p, l⟩ := h
  refine ⟨_, pi_enumS hg hm (pa_cons p pa_nil hs) hs, ?_⟩
  intro L G0 H0 G H σ e P Q g hu k
  refine l L G0 H0 G H σ e _ _ g hu fun v r G1 H1 s1 hr q => ?_
  obtain ⟨d, G2, s2, hd, q⟩ := hr.freeze s1 q
  cases d with
  | str x =>
    cases hd
    exact ⟨_, rfl, k _ _ G2 H1 s2 jok_enumS q⟩
  | _ => exact q.elim
theorem e_asSE {x : Str} {P : List D → Prop} : asSE P (.str x) = P (enums (signs x)) := rfl
end
/-- a comprehension, each thing with what is drawn for it -/
theorem lc_eachG {α β : Type} {ui : DI} {ug : DG} {ue : DE} {vs : List Nat} {e : List Sl} {P : R → Prop} (G : List α → Prop) (inj : α → D) (mk : α → β → D) (p : α → β → Prop) (hi : ∀ Q : List D → Prop, (∀ ys, G ys → Q (ys.map inj)) → ui e Q) (hl : ∀ ys, G ys → ys.length ≤ 1000000)
    (hb : ∀ ys, G ys → ∀ y ∈ ys, ∀ S : D → Prop, (∀ b, p y b → S (mk y b)) → ug (inj y) (wipeE e vs) fun e2 => ue e2 (R.keep S)) (k : ∀ ys, G ys → ∀ bs : List (α × β), bs.map (·.1) = ys → (∀ q ∈ bs, p q.1 q.2) → P (.ow (.lst (bs.map fun q => mk q.1 q.2)))) : uLc ui ug uYes ue vs e P := by
  refine hi _ fun ys g => ⟨fun i acc => ∃ bs : List (α × β), acc = bs.map (fun q => mk q.1 q.2) ∧ bs.map (·.1) = ys.take i ∧ ∀ q ∈ bs, p q.1 q.2, ⟨[], rfl, rfl, by simp⟩, ?_, ?_⟩
  · rintro i x acc hx ⟨bs, rfl, h1, h2⟩
    rw [List.getElem?_map] at hx
    cases hy : ys[i]? with
    | none => rw [hy] at hx; cases hx
    | some y =>
      rw [hy] at hx
      cases hx
      have hlt := get_lt hy
      have hm := List.mem_of_getElem? hy
      have hlg := hl ys g
      have hbl : bs.length = i := by
        have := congrArg List.length h1
        rw [List.length_map, List.length_take] at this
        omega
      have z := hb ys g y hm (fun d => (bs.map fun q => mk q.1 q.2).length < 1000000 ∧ ∃ bs' : List (α × β), bs.map (fun q => mk q.1 q.2) ++ [d] = bs'.map (fun q => mk q.1 q.2) ∧ bs'.map (·.1) = ys.take (i + 1) ∧ ∀ q ∈ bs', p q.1 q.2) fun b hpb => ⟨by rw [List.length_map]; omega, bs ++ [(y, b)], by simp, by
        rw [List.map_append, h1, List.take_add_one, hy]; rfl, fun q hq => by
        rcases List.mem_append.mp hq with hq | hq
        · exact h2 q hq
        · rw [List.mem_singleton.mp hq]; exact hpb⟩
      unfold uYes
      simpa using z
  · rintro acc ⟨bs, rfl, h1, h2⟩
    rw [List.length_map, List.take_length] at h1
    exact k ys g bs h1 h2
theorem lc_each {α β : Type} {ui : DI} {ug : DG} {ue : DE} {vs : List Nat} {e : List Sl} {P : R → Prop} (ys : List α) (inj : α → D) (mk : α → β → D) (p : α → β → Prop) (hi : ∀ Q : List D → Prop, Q (ys.map inj) → ui e Q) (hl : ys.length ≤ 1000000)
    (hb : ∀ y ∈ ys, ∀ S : D → Prop, (∀ b, p y b → S (mk y b)) → ug (inj y) (wipeE e vs) fun e2 => ue e2 (R.keep S)) (k : ∀ bs : List (α × β), bs.map (·.1) = ys → (∀ q ∈ bs, p q.1 q.2) → P (.ow (.lst (bs.map fun q => mk q.1 q.2)))) : uLc ui ug uYes ue vs e P :=
  lc_eachG (fun l => l = ys) inj mk p (fun Q h => hi Q (h ys rfl)) (fun l e => by rw [e]; exact hl) (fun l e => by subst e; exact hb) (fun l e => by subst e; exact k)
end DL
namespace DL
open PySem L2 PyProof.Rows
/-! ### methods and constructors that raise -/
structure KnownMX (P : Program) (w : World) (K : PySem.W.Frag) (mg : Str → Option Value) (base : Heap) (C : Addr) (m : Str) (k : Nat) (ps : List Str) (sp : Sp) : Prop where
  ex : ∃ g fd, FnOk P w K mg base (L2.CX P w) k g fd ps sp ∧ Meth K C m g ∧ Cls K C ∧ Binds K fd ps []
structure KnownIX (P : Program) (w : World) (K : PySem.W.Frag) (mg : Str → Option Value) (base : Heap) (x : Str) (C : Addr) (k : Nat) (ps : List Str) (sp : Sp) : Prop where
  ex : ∃ g fd, FnOk P w K mg base (L2.CX P w) k g fd ps sp ∧ Mk K C g ∧ mg x = some (.ref C) ∧ Binds K fd ps []
structure KnownCX (P : Program) (w : World) (K : PySem.W.Frag) (mg : Str → Option Value) (base : Heap) (C : Addr) (mc : Value) (m : Str) (k : Nat) (ps : List Str) (dds : List D) (sp : Sp) : Prop where
  ex : ∃ p g fd ds dvs, FnOk P w K mg base (L2.CX P w) k g fd ps sp ∧ ClX.CMet K C mc m p g ∧ Binds K fd ps ds ∧ Vals dvs ds ∧ ∀ G, RepL K G dds dvs
abbrev FIX := List D → (List (Str × D) → Prop) → (XD → Prop) → Prop
def spIX (K : PySem.W.Frag) (C : Addr) (f : FIX) : Sp := fun vs H Q E => ∃ a dx vs' G ds P XP, vs = .ref a :: vs' ∧ Ex G H ∧ G a = none ∧ H a = some (.ins C dx []) ∧ RepL K G ds vs' ∧ f ds P XP ∧
  (∀ fs G' H' ho, Stp none [] G (but H a) G' H' → G' a = none → H' a = some ho → RepO K G' (.obj C fs) ho → P fs → Q .non H') ∧ ∀ x cls d G' H', Stp none [] G (but H a) G' H' → XRep K G' H' x cls d → XP x → E cls d H'
section
variable {X : Cx} {b : Bg} {K : PySem.W.Frag}
def uMethX (C : Addr) (m : Str) (f : FSX) (xp : XD → Prop) (uo : DE) (ua : DA) : DE := fun e P => uo e (R.keep fun d => ∃ fs, d = .obj C fs ∧ fs.lookup m = none ∧ ua e fun ds => f (d :: ds) P xp)
theorem le_methX {C : Addr} {m : Str} {f : FSX} {xp : XD → Prop} {E : XK} {to : TE} {ta : TA} {uo : DE} {ua : DA} (l1 : LE K b to uo) (l2 : LA K b ta ua) (hE : ∀ {L : Lk} {G0 H0 G H G' H' : Hp} {σ : L2.St} {e : List Sl} {x : XD} {cls : Value} {d : Option Addr}, Good K b L G0 H0 G H σ e → Stp none [] G H G' H' → XRep K G' H' x cls d → xp x → E cls d H') :
    LE K b (tMeth C m (spX K f) [] E to ta) (uMethX C m f xp uo ua) := by
  intro L G0 H0 G H σ e P Q g hu k
  refine l1 L G0 H0 G H σ e _ _ g hu fun v r G1 H1 s1 hr q => ?_
  obtain ⟨d, G2, s2, hd, q⟩ := hr.freeze s1 q
  obtain ⟨fs, rfl, hm, q⟩ := q
  have g2 := g.step s2
  obtain ⟨a, dx, vs, rfl, hG, hrf⟩ := id hd
  have hH : H1 a = some (.ins C dx vs) := by
    rcases g2.ex.old a _ hG with z | ⟨_, _, z, _⟩
    · exact z
    · cases z
  refine ⟨a, dx, vs, rfl, hH, hrf.lnone hm, ?_⟩
  refine l2 L G0 H0 G2 H1 σ e _ _ g2 q fun ws ds G3 H3 s3 hr3 q3 => ?_
  have s23 := s2.trans s3
  have g3 := g.step s23
  rw [List.append_nil]
  refine ⟨G3, .obj C fs :: ds, P, xp, g3.ex, ⟨_, _, rfl, hd.mono s3.g, hr3⟩, q3, fun v r G' H' s hr hp => ?_, fun x cls d G' H' s hx hp => hE g3 s hx hp⟩
  exact k v r G' H' (s23.trans s.some) (ret_rep g3 hr fun a hb z => s23.back a hb z) hp
theorem hE_tk {L : Lk} {G0 H0 G H G' H' : Hp} {σ : L2.St} {e : List Sl} {x : XD} {cls : Value} {d : Option Addr} (g : Good K b L G0 H0 G H σ e) (s : Stp none [] G H G' H') (hx : XRep K G' H' x cls d) (h : b.xp x) : (fun cls d H => ∀ σ, b.W cls d σ H : XK) cls d H' := fun σ' => g.out s hx h σ'
theorem d_methX {C : Addr} {m : Str} {k : Nat} {ps : List Str} {f : FSX} {o a : Expr} {es : List Expr} {uo : DE} {ua : DA} {apos pos : Pos} {pl : Sem Bool} (tk : L2.Takes X b.W) (F : KnownMX X.prog X.w X.K X.mg X.base C m k ps (spX X.K f)) (hr : Room k X.A) (ho : PD X b o uo) (ha : PDA X b (a :: es) ua)
    (hst : starEach (a :: es) X.env = (false, eval a X.env) :: starEach es X.env := by rfl) (hpl : (backTo pos (starEach es X.env)).any (·.1) = false := by rfl)
    (ht : eval (.Call (.Attribute o m apos) (a :: es) [] pos) X.env = (do
      let ov ← eval o X.env
      standAt apos.atName
      let (f, first) ← holding [ov] (getMethod ov m pl)
      callWith pos f first (backTo pos (starEach (a :: es) X.env)) (backToKw pos (keywordEach [] X.env))) := by rfl) : PD X b (.Call (.Attribute o m apos) (a :: es) [] pos) (uMethX C m f b.xp uo ua) := by
  obtain ⟨g, fd, F, M, c, bi⟩ := F
  obtain ⟨to, po, lo⟩ := ho
  obtain ⟨ta, pa, la⟩ := ha
  exact ⟨_, pe_meth (E := fun cls d H => ∀ σ, b.W cls d σ H) (pl := pl) po c M F hr bi .nil (passes_call tk fun _ _ σ _ h => h σ) pa hst hpl ht, le_methX lo la hE_tk⟩
theorem d_methXq {C : Addr} {m : Str} {k : Nat} {ps : List Str} {f : FSX} {o a : Expr} {es : List Expr} {uo : DE} {ua : DA} {apos pos : Pos} {pl : Sem Bool} (F : KnownMX X.prog X.w X.K X.mg X.base C m k ps (spX X.K f)) (hr : Room k X.A) (ho : PD X b o uo) (ha : PDA X b (a :: es) ua)
    (hst : starEach (a :: es) X.env = (false, eval a X.env) :: starEach es X.env := by rfl) (hpl : (backTo pos (starEach es X.env)).any (·.1) = false := by rfl)
    (ht : eval (.Call (.Attribute o m apos) (a :: es) [] pos) X.env = (do
      let ov ← eval o X.env
      standAt apos.atName
      let (f, first) ← holding [ov] (getMethod ov m pl)
      callWith pos f first (backTo pos (starEach (a :: es) X.env)) (backToKw pos (keywordEach [] X.env))) := by rfl) : PD X b (.Call (.Attribute o m apos) (a :: es) [] pos) (uMethX C m f (fun _ => False) uo ua) := by
  obtain ⟨g, fd, F, M, c, bi⟩ := F
  obtain ⟨to, po, lo⟩ := ho
  obtain ⟨ta, pa, la⟩ := ha
  exact ⟨_, pe_meth (E := E0) (pl := pl) po c M F hr bi .nil passL pa hst hpl ht, le_methX lo la fun _ _ _ h => h.elim⟩
theorem d_meth0X {C : Addr} {m : Str} {k : Nat} {ps : List Str} {f : FSX} {o : Expr} {uo : DE} {apos pos : Pos} {pl : Sem Bool} (tk : L2.Takes X b.W) (F : KnownMX X.prog X.w X.K X.mg X.base C m k ps (spX X.K f)) (hr : Room k X.A) (ho : PD X b o uo)
    (ht : eval (.Call (.Attribute o m apos) [] [] pos) X.env = (do
      let ov ← eval o X.env
      standAt apos.atName
      let (f, first) ← holding [ov] (getMethod ov m pl)
      callWith pos f first (backTo pos (starEach [] X.env)) (backToKw pos (keywordEach [] X.env))) := by rfl) : PD X b (.Call (.Attribute o m apos) [] [] pos) (uMethX C m f b.xp uo uNil) := by
  obtain ⟨g, fd, F, M, c, bi⟩ := F
  obtain ⟨to, po, lo⟩ := ho
  exact ⟨_, pe_meth0 (E := fun cls d H => ∀ σ, b.W cls d σ H) (pl := pl) po c M F hr bi .nil (passes_call tk fun _ _ σ _ h => h σ) ht, le_methX lo la_nil hE_tk⟩
theorem d_meth0Xq {C : Addr} {m : Str} {k : Nat} {ps : List Str} {f : FSX} {o : Expr} {uo : DE} {apos pos : Pos} {pl : Sem Bool} (F : KnownMX X.prog X.w X.K X.mg X.base C m k ps (spX X.K f)) (hr : Room k X.A) (ho : PD X b o uo)
    (ht : eval (.Call (.Attribute o m apos) [] [] pos) X.env = (do
      let ov ← eval o X.env
      standAt apos.atName
      let (f, first) ← holding [ov] (getMethod ov m pl)
      callWith pos f first (backTo pos (starEach [] X.env)) (backToKw pos (keywordEach [] X.env))) := by rfl) : PD X b (.Call (.Attribute o m apos) [] [] pos) (uMethX C m f (fun _ => False) uo uNil) := by
  obtain ⟨g, fd, F, M, c, bi⟩ := F
  obtain ⟨to, po, lo⟩ := ho
  exact ⟨_, pe_meth0 (E := E0) (pl := pl) po c M F hr bi .nil passL ht, le_methX lo la_nil fun _ _ _ h => h.elim⟩
/-! C(..) -/
def uMakeX (C : Addr) (f : FIX) (xp : XD → Prop) (ua : DA) : DE := fun e P => ua e fun ds => f ds (fun fs => P (.ow (.obj C fs))) xp
theorem le_makeX {C : Addr} {f : FIX} {xp : XD → Prop} {E : XK} {ta : TA} {ua : DA} (l : LA K b ta ua) (hE : ∀ {L : Lk} {G0 H0 G H G' H' : Hp} {σ : L2.St} {e : List Sl} {x : XD} {cls : Value} {d : Option Addr}, Good K b L G0 H0 G H σ e → Stp none [] G H G' H' → XRep K G' H' x cls d → xp x → E cls d H') :
    LE K b (tMake C (spIX K C f) [] E ta) (uMakeX C f xp ua) := by
  intro L G0 H0 G H σ e P Q g hu k
  refine l L G0 H0 G H σ e _ _ g hu fun vs ds G1 H1 s1 hds q => ?_
  have g1 := g.step s1
  intro x dx hx hdx ne
  rw [List.append_nil]
  have ex1 : Ex G1 (L2.upd (L2.upd H1 dx (.own x)) x (.ins C dx [])) := fun c o h => by
    have c1 : c ≠ x := ne_of_none h (g1.ex.none hx)
    have c2 : c ≠ dx := ne_of_none h (g1.ex.none hdx)
    rw [upd_ne c1, upd_ne c2]
    exact g1.ex c o h
  have up : ∀ c o, H1 c = some o → but (L2.upd (L2.upd H1 dx (.own x)) x (.ins C dx [])) x c = some o := fun c o h => by
    have c1 : c ≠ x := ne_of_none h hx
    have c2 : c ≠ dx := ne_of_none h hdx
    rw [but_ne c1, upd_ne c1, upd_ne c2]; exact h
  have st : ∀ (b' : Option Addr) {G' H' : Hp}, Stp none [] G1 (but (L2.upd (L2.upd H1 dx (.own x)) x (.ins C dx [])) x) G' H' → Stp b' [] G1 H1 G' H' := fun b' {G' H'} s => by
    refine ⟨s.g, fun c o hb nm h => .inl (s.fr0 (by simp) (up c o h)), fun c hb h hg => ?_, s.ex, fun c hc ⟨h1, q, ns, i, n, z, h2, h3, h4⟩ => ?_⟩
    · cases hh : H1 c with
      | none => exact absurd hh h
      | some o => exact s.new c (by simp) (by rw [up c o hh]; simp) hg
    · exact ⟨s.new c (by simp) (by rw [up _ _ h2]; simp) h1, q, ns, i, n, z, s.fr0 (by simp) (up _ _ h2), s.g _ _ h3, h4⟩
  refine ⟨x, dx, vs, G1, ds, _, xp, rfl, ex1, g1.ex.none hx, upd_same, hds, q, fun fs G' H' ho s hG hH hr hp => ⟨rfl, ?_⟩, fun y cls d G' H' s hy hp => hE g1 (st none s) hy hp⟩
  exact k (.ref x) (.ow (.obj C fs)) G' H' (s1.trans (st b.a s)) ⟨x, ho, rfl, g1.nb hx, s1.back x (g1.nb hx) hx, hG, hH, hr⟩ hp
theorem d_makeX {x : Str} {C : Addr} {k : Nat} {ps : List Str} {f : FIX} {a : Expr} {es : List Expr} {ua : DA} {p pos : Pos} (tk : L2.Takes X b.W) (F : KnownIX X.prog X.w X.K X.mg X.base x C k ps (spIX X.K C f)) (hr : Room (k + 1) X.A) (ha : PDA X b (a :: es) ua) (hg : Gl X x := by rfl)
    (hdb : (x == ("__debug__" : Str)) = false := by decide) (he : starEach (a :: es) X.env = (false, eval a X.env) :: starEach es X.env := by rfl) (hpl : (backTo pos (starEach es X.env)).any (·.1) = false := by rfl) : PD X b (.Call (.Name x p) (a :: es) [] pos) (uMakeX C f b.xp ua) := by
  obtain ⟨g, fd, F, M, hm, bi⟩ := F
  obtain ⟨t, pa, l⟩ := ha
  exact ⟨_, pe_make (E := fun cls d H => ∀ σ, b.W cls d σ H) M F hr hg hm bi .nil (passes_call tk fun _ _ σ _ h => h σ) pa hdb he hpl, le_makeX l hE_tk⟩
theorem d_makeXq {x : Str} {C : Addr} {k : Nat} {ps : List Str} {f : FIX} {a : Expr} {es : List Expr} {ua : DA} {p pos : Pos} (F : KnownIX X.prog X.w X.K X.mg X.base x C k ps (spIX X.K C f)) (hr : Room (k + 1) X.A) (ha : PDA X b (a :: es) ua) (hg : Gl X x := by rfl)
    (hdb : (x == ("__debug__" : Str)) = false := by decide) (he : starEach (a :: es) X.env = (false, eval a X.env) :: starEach es X.env := by rfl) (hpl : (backTo pos (starEach es X.env)).any (·.1) = false := by rfl) : PD X b (.Call (.Name x p) (a :: es) [] pos) (uMakeX C f (fun _ => False) ua) := by
  obtain ⟨g, fd, F, M, hm, bi⟩ := F
  obtain ⟨t, pa, l⟩ := ha
  exact ⟨_, pe_make (E := E0) M F hr hg hm bi .nil passL pa hdb he hpl, le_makeX l fun _ _ _ h => h.elim⟩
end
section
variable {P : Program} {w : World} {K : PySem.W.Frag} {mg : Str → Option Value} {base : Heap}
theorem fnOk_MX {x qual : Str} {st : Stmt} {f : Addr} {fd : FuncData} {N ps : List Str} {k : Nat} {fs : FSX} {u : (XD → Prop) → DS} (F : Fun K x qual st f fd) (S : FnScope N ps (defScope st)) (len : ∀ ds P XP, fs ds P XP → ds.length = ps.length)
    (hb : ∀ (xp : XD → Prop) (cdv : Value) (A : Around) (outer : List Env) (s : Shared) (H : Hp) (E : XK), Room k (A.deeper (envOfC qual (defScope st) s.heap.objs.size f cdv)) → L2.Takes (cxOf (L2.CX P w) P w K mg base N qual (defScope st) f cdv A outer s H E) (bE none E xp).W → PassesOwn (model P w) (cxOf (L2.CX P w) P w K mg base N qual (defScope st) f cdv A outer s H E).A (cxOf (L2.CX P w) P w K mg base N qual (defScope st) f cdv A outer s H E).env (cxOf (L2.CX P w) P w K mg base N qual (defScope st) f cdv A outer s H E).xe → PDSs (cxOf (L2.CX P w) P w K mg base N qual (defScope st) f cdv A outer s H E) (bE none E xp) (defBody st) (u xp))
    (hu : ∀ ds P XP, fs ds P XP → u XP ⟨fun _ => P (.sh .non), fun r _ => P r, fun _ => False, fun _ => False⟩ (env0 N ds)) : FnOk P w K mg base (L2.CX P w) (k + 1) f fd ps (spX K fs) := fnOk_X F S len hb hu
theorem fn_initX {qual : Str} {st : Stmt} {f C : Addr} {fd : FuncData} {N ps : List Str} {k : Nat} {fi : FIX} {u : (XD → Prop) → DS} (F : Fun K "__init__" qual st f fd) (S : FnScope N ps (defScope st)) (len : ∀ ds P XP, fi ds P XP → ds.length + 1 = ps.length) (hN : N.length = N.tail.length + 1)
    (hb : ∀ (xp : XD → Prop) (cdv : Value) (A : Around) (outer : List Env) (s : Shared) (H : Hp) (E : XK), Room k (A.deeper (envOfC qual (defScope st) s.heap.objs.size f cdv)) → L2.Takes (cxOf (L2.CX P w) P w K mg base N qual (defScope st) f cdv A outer s H E) (bE none E xp).W → PassesOwn (model P w) (cxOf (L2.CX P w) P w K mg base N qual (defScope st) f cdv A outer s H E).A (cxOf (L2.CX P w) P w K mg base N qual (defScope st) f cdv A outer s H E).env (cxOf (L2.CX P w) P w K mg base N qual (defScope st) f cdv A outer s H E).xe → PDSs (cxOf (L2.CX P w) P w K mg base N qual (defScope st) f cdv A outer s H E) (bE none E xp) (defBody st) (u xp))
    (hu : ∀ (q : Option Addr) ds P XP, fi ds P XP → u XP ⟨fun e => ∃ fs, nth e 0 = .own q (.obj C fs) ∧ P fs, fun r e => r = .sh .non ∧ ∃ fs, nth e 0 = .own q (.obj C fs) ∧ P fs, fun _ => False, fun _ => False⟩ (.own q (.obj C []) :: env0 N.tail ds)) : FnOk P w K mg base (L2.CX P w) (k + 1) f fd ps (spIX K C fi) := by
  refine F.okX S (fun vs H Q E h => ?_) (fun cdv A outer s H vs Q E hr h => ?_)
  · obtain ⟨a, dx, vs', G, ds, P, XP, rfl, _, _, _, hr, hf, _⟩ := h
    rw [List.length_cons, hr.length]; exact len ds P XP hf
  · obtain ⟨a, dx, vs', G, ds, P', XP, rfl, ex, hga, hH, hds, hf, kk, kx⟩ := h
    obtain ⟨t, p, l⟩ := hb XP cdv A outer s H E hr (takes_of rfl rfl rfl rfl) (passes_of rfl)
    have es : L2.start N (.ref a :: vs') = some (.ref a) :: (vs'.map some ++ List.replicate (N.tail.length - vs'.length) none) := by
      unfold L2.start
      rw [List.map_cons, List.length_cons, hN, Nat.add_sub_add_right]
      rfl
    refine ⟨t, p, ?_⟩
    rw [es]
    have ea : ∀ {c : Addr} {o : HO}, but H a c = some o → c ≠ a ∧ H c = some o := fun {c o} h => by
      have hc : c ≠ a := fun z => by rw [z, but_same] at h; cases h
      exact ⟨hc, by rw [← but_ne (H := H) hc]; exact h⟩
    have noo : ∀ {j : Nat} {t : Option Addr} {o : OD}, (Sl.own (some a) (.obj C []) :: env0 N.tail ds)[j]? = some (.own t o) → j = 0 := fun {j t o} e => by
      cases j with
      | zero => rfl
      | succ j => exact absurd (show (ds.map Sl.sh ++ List.replicate _ .un)[j]? = some (.own t o) by simpa [env0] using e) noown
    have gd : Good K (bE none E XP) [] G (but H a) G H (some (.ref a) :: (vs'.map some ++ List.replicate (N.tail.length - vs'.length) none)) (.own (some a) (.obj C []) :: env0 N.tail ds) := by
      refine ⟨⟨⟨Sub.refl G, fun c o _ _ h => .inl (ea h).2, fun _ _ _ h => h, ex, fun c h => (by cases h)⟩, fun j y e => ?_, fun j j' q q' o o' c e1 e2 _ _ => by rw [noo e1, noo e2], fun c h => (by cases h), fun c od u m => (by cases m), ?_⟩, ⟨fun h => (h rfl).elim, fun _ x cls d σ G' H' st hx h => kx x cls d G' H' st hx h⟩⟩
      · cases j with
        | zero => cases e; exact ⟨a, _, rfl, by simp, but_same, hga, hH, ⟨dx, [], rfl, rfl⟩, fun a0 h => by cases h; rfl⟩
        | succ j => exact slot_start hds _ _ j y (by simpa [env0] using e)
      · have := hds.length
        unfold env0
        simp [this]
    have fin : ∀ {G' H' : Hp} {σ : L2.St} {e : List Sl}, Good K (bE none E XP) [] G (but H a) G' H' σ e → (∃ fs, nth e 0 = .own (some a) (.obj C fs) ∧ P' fs) → Q .non H' := fun {G' H' σ e} g ⟨fs, he, hp⟩ => by
      obtain ⟨a', ho, q1, q2, q3, q4, q5, q6, q7⟩ := g.slot 0 _ (nth_get he (by simp))
      have eqa := q7 a rfl
      subst eqa
      exact kk fs G' H' ho g.stp q4 q5 q6 hp
    refine l [] G (but H a) G H _ _ ⟨fun e => ∃ fs, nth e 0 = .own (some a) (.obj C fs) ∧ P' fs, fun r e => r = .sh .non ∧ ∃ fs, nth e 0 = .own (some a) (.obj C fs) ∧ P' fs, fun _ => False, fun _ => False⟩ _ gd ⟨fun G' H' σ e g h => fin g h, fun G' H' σ e v r g hr h => ?_, fun G' H' σ e g h => h.elim, fun G' H' σ e g h => h.elim⟩ (hu (some a) ds P' XP hf)
    obtain ⟨rfl, h⟩ := h
    cases hr
    exact fin g h
end
end DL
/-! ### data compared, whatever stands within: dicts, tuples, lists -/
namespace DL
open PySem PySem.SeqAt
section
open AutoSeq1 (wpAny_loadPart')
open MeetsSeq MeetsSeq2 MeetsSeq3 SeqRoads2
variable {prog : Program} {w : World}
/-- two tuples told apart, the items compared in this program and this world -/
theorem tup_neIn (p q : Addr) (us vs : Array Value) (k1 k2 : Nat) (d1 d2 : Option Addr) (r1 r2 : Array (Option Value)) (c : Nat → Bool) :
    MeetsIn prog w (Builtin.«tuple.__ne__» ⟨[.ref p, .ref q], []⟩) fun A R s =>
      s.heap.get? p = some ⟨.type "tuple", d1, .seq us k1, r1⟩ ∧ s.heap.get? q = some ⟨.type "tuple", d2, .seq vs k2, r2⟩ ∧
        (∀ i (g1 : i < us.size) (g2 : i < vs.size), EqIn prog w A.in1 s us[i] vs[i] (c i)) ∧ R (.ok (.ret (.bool (!((List.range (min us.size vs.size)).all c && us.size == vs.size))))) s :=
  .of_wp fun A R s hyp => by
    obtain ⟨hp, g, dr, tk, os⟩ := s
    obtain ⟨ep, eq, each, fin⟩ := hyp
    have sub := AutoSeq1.sub_tuple_tuple
    have zl : (us.toList.zip vs.toList).length = min us.size vs.size := by simp
    wp_walk using wpAny_loadPart' ep, wpAny_loadPart' eq, wpAny_forIn_list _ (fun left st s' => st.1 = none ∧ s' = ⟨hp, g, dr, tk, os⟩ ∧ ∃ at_, left = (us.toList.zip vs.toList).drop at_ ∧
      R (.ok (.ret (.bool (!(((List.range (min us.size vs.size)).drop at_).all c && us.size == vs.size))))) ⟨hp, g, dr, tk, os⟩) _
    case turn =>
      rintro ⟨y, x⟩ left st s' ⟨none_, rfl, at_, hz, hR⟩
      have lt : at_ < (us.toList.zip vs.toList).length := by
        by_cases z : at_ < (us.toList.zip vs.toList).length
        · exact z
        · rw [List.drop_of_length_le (by omega)] at hz
          cases hz
      have lm : at_ < min us.size vs.size := by omega
      have l1 : at_ < us.size := by omega
      have l2 : at_ < vs.size := by omega
      rw [List.drop_eq_getElem_cons lt] at hz
      injection hz with pair rest_
      obtain ⟨rfl, rfl⟩ : y = us[at_] ∧ x = vs[at_] := by
        have z1 := congrArg Prod.fst pair
        have z2 := congrArg Prod.snd pair
        constructor
        · simpa using z1
        · simpa using z2
      have step : (List.range (min us.size vs.size)).drop at_ = at_ :: (List.range (min us.size vs.size)).drop (at_ + 1) := by simp [List.drop_eq_getElem_cons, lm]
      rw [step, List.all_cons] at hR
      refine wpAny_bind (each at_ l1 l2 _ _ ?_)
      cases hc : c at_ with
      | true =>
        rw [hc] at hR
        wp_walk
        exact ⟨rfl, rfl, at_ + 1, rest_, by simpa using hR⟩
      | false =>
        rw [hc] at hR
        wp_walk
        exact ⟨_, rfl, by simpa using hR⟩
    case fin =>
      rintro ⟨b1, b2⟩ s' ⟨none_, rfl, at_, hz, hR⟩
      simp only at none_
      subst none_
      have ge : min us.size vs.size ≤ at_ := by
        by_cases z : at_ < (us.toList.zip vs.toList).length
        · rw [List.drop_eq_getElem_cons z] at hz
          cases hz
        · omega
      rw [List.drop_of_length_le (by simpa using ge)] at hR
      wp_walk
      exact ⟨_, rfl, by simpa [Builtin.Tuple.tupleCompareSizes, bne] using hR⟩
    case h =>
      exact ⟨rfl, rfl, 0, rfl, by simpa using fin⟩
theorem ne_tups {A : Around} {s : Shared} {E Q : Value → Shared → Prop} {p q : Addr} {us vs : Array Value} {c : Nat → Bool} (hp : s.heap.IsTuple p us) (hq : s.heap.IsTuple q vs) (hu : A.units < cLine)
    (each : ∀ i (g1 : i < us.size) (g2 : i < vs.size), EqIn prog w A.in1 s us[i] vs[i] (c i)) (h : Q (.bool (!((List.range (min us.size vs.size)).all c && us.size == vs.size))) s) :
    wpAny (model prog w) A (compareOp .NotEq (.ref p) (.ref q)) Q E s := by
  obtain ⟨⟨c1, d1, x1, r1⟩, ep, rfl, k1, rfl⟩ := id hp
  obtain ⟨⟨c2, d2, x2, r2⟩, eq, rfl, k2, rfl⟩ := id hq
  exact wpAny_richCompare_same_room (T := "tuple") (op := .NotEq) ⟨_, ep, rfl⟩ ⟨_, eq, rfl⟩ F.slot_tuple_ne (call_meetsIn F.slot_tuple_ne ⟨_, ep, rfl⟩ F.entry_tuple_ne (F.args_tuple_ne_2 _ _) (tup_neIn p q us vs k1 k2 d1 d2 r1 r2 c)
    ⟨ep, eq, each, (fun z => nomatch z), h⟩) hu
end
open L2 PyProof.Rows PySem.W
/-! the relation over the layer's values -/
def sc2 : V → V → Bool
  | .byt _, _ => false
  | x, y => scal x y
inductive EqV (K : PySem.W.Frag) (H : Hp) : Nat → V → V → Bool → Prop
  | scal {n : Nat} {x y : V} : sc2 x y = true → EqV K H n x y (decide (x = y))
  | tup {n : Nat} {a b : Addr} {xs ys : List V} {e : Nat → Bool} : SqT K H a xs → SqT K H b ys → (∀ (i : Nat) (x y : V), xs[i]? = some x → ys[i]? = some y → EqV K H n x y (e i)) → EqV K H (n + 1) (.ref a) (.ref b) ((List.range (min xs.length ys.length)).all e && xs.length == ys.length)
  | lst {n : Nat} {a b : Addr} {xs ys : List V} {e : Nat → Bool} : SqL K H a xs → SqL K H b ys → xs.length = ys.length → (∀ (i : Nat) (x y : V), xs[i]? = some x → ys[i]? = some y → EqV K H n x y (e i)) → EqV K H (n + 1) (.ref a) (.ref b) ((List.range xs.length).all e)
  | lstL {n : Nat} {a b : Addr} {xs ys : List V} : SqL K H a xs → SqL K H b ys → xs.length ≠ ys.length → EqV K H (n + 1) (.ref a) (.ref b) false
  | dk {n : Nat} {a b : Addr} {ka kb : List (Key × V)} {e : Key → Bool} : Rd H a (.dK ka) → Rd H b (.dK kb) → (ka.map (·.1)).Nodup → (∀ (k : Key) (v y : V), (k, v) ∈ ka → valV kb k = some y → EqV K H n v y (e k)) → EqV K H (n + 1) (.ref a) (.ref b) (ka.length == kb.length && ka.all fun p => (valV kb p.1).isSome && e p.1)
section
variable {X : Cx} {pins : List (Addr × Obj)} {σ : L2.St} {H : Hp} {s : Shared}
theorem rd_dk {a : Addr} {k1 k2 : List (Key × V)} (h1 : Rd H a (.dK k1)) (h2 : Rd H a (.dK k2)) : k1 = k2 := by
  rcases h1 with h1 | ⟨_, h1⟩ <;> rcases h2 with h2 | ⟨_, h2⟩ <;> first | (rw [h1] at h2; cases h2; rfl) | (rw [h1] at h2; cases h2)
theorem valV_nodup : ∀ {ks : List (Key × V)} {k : Key} {v : V}, (ks.map (·.1)).Nodup → (k, v) ∈ ks → valV ks k = some v
  | p :: r, k, v, nd, h => by
    rw [List.map_cons, List.nodup_cons] at nd
    rcases List.mem_cons.mp h with rfl | h
    · exact valV_pos rfl
    · have ne : ¬ p.1 = k := fun z => nd.1 (List.mem_map.mpr ⟨(k, v), h, z.symm⟩)
      rw [valV_neg ne]
      exact valV_nodup nd.2 h
theorem EqV.refl (I : Inv X pins σ H s) {n : Nat} {x y : V} {c : Bool} (h : EqV X.K H n x y c) : x = y → c = true := by
  induction h with
  | scal _ => intro z; exact decide_eq_true z
  | tup h1 h2 _ ih =>
    intro z
    cases z
    have e := I.tuple_inj h1 h2
    subst e
    simp only [Nat.min_self, beq_self_eq_true, Bool.and_true, List.all_eq_true]
    intro i hi
    have hi := List.mem_range.mp hi
    exact ih i _ _ (List.getElem?_eq_getElem hi) (List.getElem?_eq_getElem hi) rfl
  | lst h1 h2 _ _ ih =>
    intro z
    cases z
    have e := I.list_inj h1 h2
    subst e
    rw [List.all_eq_true]
    intro i hi
    have hi := List.mem_range.mp hi
    exact ih i _ _ (List.getElem?_eq_getElem hi) (List.getElem?_eq_getElem hi) rfl
  | lstL h1 h2 ne =>
    intro z
    cases z
    exact absurd (congrArg List.length (I.list_inj h1 h2)) ne
  | dk h1 h2 nd _ ih =>
    intro z
    cases z
    have e := rd_dk h1 h2
    subst e
    simp only [beq_self_eq_true, Bool.true_and, List.all_eq_true]
    rintro ⟨k, v⟩ hm
    have hv := valV_nodup nd hm
    show ((valV _ k).isSome && _) = true
    rw [hv, ih k v v hm hv rfl]; rfl
theorem eqat_f {A : Around} {v u : Value} {p : Prop} [Decidable p] (h : ¬ p) (e : EqAt A s v u false) : EqAt A s v u (decide p) := by rw [decide_eq_false h]; exact e
theorem eq_leaf {A : Around} {x y : V} {v u : Value} (h : sc2 x y = true) (rx : RelV x v) (ry : RelV y u) : EqAt A s v u (decide (x = y)) := by
  cases x with
  | byt _ => cases h
  | flt _ => cases y <;> cases h
  | ref _ => cases y <;> cases h
  | ty _ => cases y <;> cases h
  | non =>
    obtain rfl : v = Value.none := rx
    cases y with
    | non => obtain rfl : u = Value.none := ry; rw [decide_eq_true rfl]; exact EqAt.same _
    | bl c => obtain rfl : u = Value.bool c := ry; exact eqat_f (fun z => nomatch z) (EqAt.none_bool c)
    | int i => obtain ⟨t, rfl⟩ := ry; exact eqat_f (fun z => nomatch z) (EqAt.none_int i t)
    | str i => obtain ⟨t, rfl⟩ := ry; exact eqat_f (fun z => nomatch z) (EqAt.none_str i t)
    | _ => cases h
  | bl b =>
    obtain rfl : v = Value.bool b := rx
    cases y with
    | non => obtain rfl : u = Value.none := ry; exact eqat_f (fun z => nomatch z) (EqAt.bool_none b)
    | bl c => obtain rfl : u = Value.bool c := ry; rw [dec_bl]; exact EqAt.bool_bool b c
    | str i => obtain ⟨t, rfl⟩ := ry; exact eqat_f (fun z => nomatch z) (EqAt.bool_str b i t)
    | _ => cases h
  | int j =>
    obtain ⟨tj, rfl⟩ := rx
    cases y with
    | non => obtain rfl : u = Value.none := ry; exact eqat_f (fun z => nomatch z) (EqAt.int_none j tj)
    | int i => obtain ⟨t, rfl⟩ := ry; rw [dec_int]; exact EqAt.int_int j tj i t
    | str i => obtain ⟨t, rfl⟩ := ry; exact eqat_f (fun z => nomatch z) (EqAt.int_str j tj i t)
    | _ => cases h
  | str j =>
    obtain ⟨tj, rfl⟩ := rx
    cases y with
    | non => obtain rfl : u = Value.none := ry; exact eqat_f (fun z => nomatch z) (EqAt.str_none j tj)
    | bl c => obtain rfl : u = Value.bool c := ry; exact eqat_f (fun z => nomatch z) (EqAt.str_bool j tj c)
    | int i => obtain ⟨t, rfl⟩ := ry; exact eqat_f (fun z => nomatch z) (EqAt.str_int j tj i t)
    | str i => obtain ⟨t, rfl⟩ := ry; rw [dec_str]; exact EqAt.str_str j tj i t
    | _ => cases h
theorem get_arr {xs : List V} {its : List Value} (r : Vals xs its) {j : Nat} (h : j < its.toArray.size) : ∃ x, xs[j]? = some x ∧ RelV x its.toArray[j] := by
  have hl := r.length
  have hj : j < xs.length := by rw [hl]; simpa using h
  obtain ⟨u, hu, ru⟩ := r.get (List.getElem?_eq_getElem hj)
  refine ⟨_, List.getElem?_eq_getElem hj, ?_⟩
  have e : its.toArray[j] = u := by
    have : its[j]? = some its.toArray[j] := by simp
    rw [hu] at this
    exact (Option.some.inj this).symm
  rw [e]
  exact ru
theorem kv_mem {l1 : List (Key × V)} {l2 : List (Key × Value)} {k : Key} {v : Value} (r : KV l1 l2) (h : (k, v) ∈ l2) : ∃ x, (k, x) ∈ l1 ∧ RelV x v := by
  unfold KV at r
  induction r with
  | nil => cases h
  | @cons p q ps qs hq t ih =>
    rcases List.mem_cons.mp h with rfl | h
    · refine ⟨p.2, ?_, hq.2⟩
      have : (k, p.2) = p := by rw [← show p.1 = k from hq.1]
      rw [this]; exact List.mem_cons_self
    · obtain ⟨x, hx, rx⟩ := ih h
      exact ⟨x, List.mem_cons_of_mem _ hx, rx⟩
theorem kv_all {kb : List (Key × V)} {vb : List (Key × Value)} (rb : KV kb vb) {e : Key → Bool} {l1 : List (Key × V)} {l2 : List (Key × Value)} (r : KV l1 l2) : (l2.all fun p => (valueAt vb p.1).isSome && e p.1) = l1.all fun p => (valV kb p.1).isSome && e p.1 := by
  unfold KV at r
  induction r with
  | nil => rfl
  | @cons p q ps qs h t ih2 =>
    have ek : (valueAt vb q.1).isSome = (valV kb p.1).isSome := by
      rw [← h.1]
      have rr := rb.val p.1
      cases hk : valV kb p.1 <;> cases hk2 : valueAt vb p.1 <;> rw [hk, hk2] at rr <;> first | rfl | exact rr.elim
    rw [List.all_cons, List.all_cons, ih2, ek, h.1]
theorem EqV.tree (I : Inv X pins σ H s) {n : Nat} {x y : V} {c : Bool} (h : EqV X.K H n x y c) : ∀ {v u : Value}, RelV x v → RelV y u → EqTree X.prog X.w s n v u c := by
  induction h with
  | scal h => intro v u rx ry; exact .leaf fun A _ => eq_leaf h rx ry
  | @tup n a b xs ys e h1 h2 hh ih =>
    intro v u rx ry
    obtain rfl : v = Value.ref a := rx
    obtain rfl : u = Value.ref b := ry
    by_cases ab : a = b
    · subst ab
      rw [EqV.refl I (.tup h1 h2 hh) rfl]
      exact .same
    · obtain ⟨i1, r1, t1, _⟩ := I.tuple h1
      obtain ⟨i2, r2, t2, _⟩ := I.tuple h2
      have z := EqTree.tuples (prog := X.prog) (w := X.w) (n := n) (e := e) ab t1 t2 fun j g1 g2 => by
        obtain ⟨x, hx, rx⟩ := get_arr r1 g1
        obtain ⟨y, hy, ry⟩ := get_arr r2 g2
        exact ih j x y hx hy rx ry
      have l1 := r1.length
      have l2 := r2.length
      rw [List.size_toArray, List.size_toArray, ← l1, ← l2] at z
      exact z
  | @lst n a b xs ys e h1 h2 hl hh ih =>
    intro v u rx ry
    obtain rfl : v = Value.ref a := rx
    obtain rfl : u = Value.ref b := ry
    by_cases ab : a = b
    · subst ab
      rw [EqV.refl I (.lst h1 h2 hl hh) rfl]
      exact .same
    · obtain ⟨i1, r1, t1, _⟩ := I.list h1
      obtain ⟨i2, r2, t2, _⟩ := I.list h2
      have l1 := r1.length
      have l2 := r2.length
      have z := EqTree.lists (prog := X.prog) (w := X.w) (n := n) (e := e) ab t1.isList t2.isList (by rw [List.size_toArray, List.size_toArray, ← l1, ← l2]; exact hl) fun j g1 g2 => by
        obtain ⟨x, hx, rx⟩ := get_arr r1 g1
        obtain ⟨y, hy, ry⟩ := get_arr r2 g2
        exact ih j x y hx hy rx ry
      rw [List.size_toArray, ← l1] at z
      exact z
  | @lstL n a b xs ys h1 h2 hl =>
    intro v u rx ry
    obtain rfl : v = Value.ref a := rx
    obtain rfl : u = Value.ref b := ry
    have ab : a ≠ b := fun z => by
      subst z
      exact hl (congrArg List.length (I.list_inj h1 h2))
    obtain ⟨i1, r1, t1, _⟩ := I.list h1
    obtain ⟨i2, r2, t2, _⟩ := I.list h2
    have l1 := r1.length
    have l2 := r2.length
    exact EqTree.listsLen ab t1.isList t2.isList (by rw [List.size_toArray, List.size_toArray, ← l1, ← l2]; simpa using hl)
  | @dk n a b ka kb e h1 h2 nd hh ih =>
    intro v u rx ry
    obtain rfl : v = Value.ref a := rx
    obtain rfl : u = Value.ref b := ry
    by_cases ab : a = b
    · subst ab
      rw [EqV.refl I (.dk h1 h2 nd hh) rfl]
      exact .same
    · obtain ⟨_, ya, va, ra, da⟩ := (show ObjOk X.prog X.w H s.heap a (.dK ka) from h1.ok I.hok)
      obtain ⟨_, yb, vb, rb, db⟩ := (show ObjOk X.prog X.w H s.heap b (.dK kb) from h2.ok I.hok)
      have la : ka.length = va.length := ra.length
      have lb : kb.length = vb.length := rb.length
      have z := EqTree.dicts (prog := X.prog) (w := X.w) (knd := mixKind X.prog X.w) (n := n) (e := e) ab ya yb da db fun k v y hm hv => by
        obtain ⟨x, hx, rx⟩ := kv_mem ra hm
        have rr := rb.val k
        rw [hv] at rr
        cases hk : valV kb k with
        | none => rw [hk] at rr; exact rr.elim
        | some w => rw [hk] at rr; exact ih k x w hx hk rx rr
      rw [kv_all rb ra, ← la, ← lb] at z
      exact z
def rEqV (K : PySem.W.Frag) : R2 := fun x y H Q => ∃ n c, n ≤ 60 ∧ EqV K H n x y c ∧ Q (.bl c) H
def rNeT (K : PySem.W.Frag) : R2 := fun x y H Q => ∃ n c a b xs ys, n ≤ 60 ∧ x = .ref a ∧ y = .ref b ∧ SqT K H a xs ∧ SqT K H b ys ∧ (∀ (i : Nat) (x y : V), xs[i]? = some x → ys[i]? = some y → EqV K H n x y (c i)) ∧ Q (.bl (!((List.range (min xs.length ys.length)).all c && xs.length == ys.length))) H
end
section
variable {X : Cx}
theorem op_eqV (hu : X.A.units + 64 < cLine) : OpR X (compareOp .Eq) (fun x y H Q => (∃ a b, x = .ref a ∧ y = .ref b) ∧ rEqV X.K x y H Q) := by
  intro pins s σ H x y v u Q I rx ry h
  obtain ⟨⟨a, b, rfl, rfl⟩, n, c, hn, h, q⟩ := h
  obtain rfl : v = Value.ref a := rx
  obtain rfl : u = Value.ref b := ry
  cases h with
  | scal h => cases h
  | @tup n _ _ xs ys e h1 h2 hh =>
    obtain ⟨i1, r1, t1, _⟩ := I.tuple h1
    obtain ⟨i2, r2, t2, _⟩ := I.tuple h2
    have l1 := r1.length
    have l2 := r2.length
    refine eq_tuplesT (n := n) (e := e) t1 t2 (fun j g1 g2 => ?_) (by omega) ?_
    · obtain ⟨x, hx, rx⟩ := get_arr r1 g1
      obtain ⟨y, hy, ry⟩ := get_arr r2 g2
      exact (hh j x y hx hy).tree I rx ry
    · rw [List.size_toArray, List.size_toArray, ← l1, ← l2]
      exact ⟨.bl _, H, I, rfl, q⟩
  | @lst n _ _ xs ys e h1 h2 hl hh =>
    obtain ⟨i1, r1, t1, _⟩ := I.list h1
    obtain ⟨i2, r2, t2, _⟩ := I.list h2
    have l1 := r1.length
    have l2 := r2.length
    refine eq_listsT (n := n) (e := e) t1.isList t2.isList (by rw [List.size_toArray, List.size_toArray, ← l1, ← l2]; exact hl) (fun j g1 g2 => ?_) (by omega) ?_
    · obtain ⟨x, hx, rx⟩ := get_arr r1 g1
      obtain ⟨y, hy, ry⟩ := get_arr r2 g2
      exact (hh j x y hx hy).tree I rx ry
    · rw [List.size_toArray, ← l1]
      exact ⟨.bl _, H, I, rfl, q⟩
  | @lstL n _ _ xs ys h1 h2 hl =>
    obtain ⟨i1, r1, t1, _⟩ := I.list h1
    obtain ⟨i2, r2, t2, _⟩ := I.list h2
    have l1 := r1.length
    have l2 := r2.length
    exact RcAt.lists_lengths t1.isList t2.isList (by rw [List.size_toArray, List.size_toArray, ← l1, ← l2]; simpa using hl) (by omega) X.prog X.w _ _ ⟨.bl _, H, I, rfl, q⟩
  | @dk n _ _ ka kb e h1 h2 nd hh =>
    obtain ⟨_, ya, va, ra, da⟩ := (show ObjOk X.prog X.w H s.heap a (.dK ka) from h1.ok I.hok)
    obtain ⟨_, yb, vb, rb, db⟩ := (show ObjOk X.prog X.w H s.heap b (.dK kb) from h2.ok I.hok)
    have la : ka.length = va.length := ra.length
    have lb : kb.length = vb.length := rb.length
    refine eq_dictsT (knd := mixKind X.prog X.w) (n := n) (e := e) ya yb da db (fun k v y hm hv => ?_) (by omega) ?_
    · obtain ⟨x, hx, rx⟩ := kv_mem ra hm
      have rr := rb.val k
      rw [hv] at rr
      cases hk : valV kb k with
      | none => rw [hk] at rr; exact rr.elim
      | some w => rw [hk] at rr; exact (hh k x w hx hk).tree I rx rr
    · rw [kv_all rb ra, ← la, ← lb]
      exact ⟨.bl _, H, I, rfl, q⟩
theorem op_neT (hu : X.A.units + 64 < cLine) : OpR X (compareOp .NotEq) (rNeT X.K) := by
  intro pins s σ H x y v u Q I rx ry h
  obtain ⟨n, c, a, b, xs, ys, hn, rfl, rfl, h1, h2, hh, q⟩ := h
  obtain rfl : v = Value.ref a := rx
  obtain rfl : u = Value.ref b := ry
  obtain ⟨i1, r1, t1, _⟩ := I.tuple h1
  obtain ⟨i2, r2, t2, _⟩ := I.tuple h2
  have l1 := r1.length
  have l2 := r2.length
  refine ne_tups (c := c) t1 t2 (by omega) (fun j g1 g2 => ?_) ?_
  · obtain ⟨x, hx, rx⟩ := get_arr r1 g1
    obtain ⟨y, hy, ry⟩ := get_arr r2 g2
    exact ((hh j x y hx hy).tree I rx ry).at X.A.in1 (by show X.A.units + 1 + n < cLine; omega)
  · rw [List.size_toArray, List.size_toArray, ← l1, ← l2]
    exact ⟨.bl _, H, I, rfl, q⟩
end
/-! over data -/
inductive EqD : Nat → D → D → Bool → Prop
  | fl {n : Nat} {d1 d2 : D} {c : Bool} : eqF d1 d2 = some c → EqD n d1 d2 c
  | tup {n : Nat} {xs ys : List D} {e : Nat → Bool} : (∀ (i : Nat) (x y : D), xs[i]? = some x → ys[i]? = some y → EqD n x y (e i)) → EqD (n + 1) (.tup xs) (.tup ys) ((List.range (min xs.length ys.length)).all e && xs.length == ys.length)
  | lst {n : Nat} {xs ys : List D} {e : Nat → Bool} : xs.length = ys.length → (∀ (i : Nat) (x y : D), xs[i]? = some x → ys[i]? = some y → EqD n x y (e i)) → EqD (n + 1) (.lst xs) (.lst ys) ((List.range xs.length).all e)
  | lstL {n : Nat} {xs ys : List D} : xs.length ≠ ys.length → EqD (n + 1) (.lst xs) (.lst ys) false
  | dk {n : Nat} {ka kb : List (Key × D)} {e : Key → Bool} : (ka.map (·.1)).Nodup → (∀ (k : Key) (v y : D), (k, v) ∈ ka → valD kb k = some y → EqD n v y (e k)) → EqD (n + 1) (.dk ka) (.dk kb) (ka.length == kb.length && ka.all fun p => (valD kb p.1).isSome && e p.1)
section
variable {K : PySem.W.Frag} {G H : Hp}
theorem repK_ks : ∀ {ks : List (Key × D)} {vs : List (Key × V)}, RepK K G ks vs → vs.map (·.1) = ks.map (·.1)
  | [], _, h => by rw [show _ = [] from h]; rfl
  | (k, x) :: xs, _, ⟨v, r, h1, _, h3⟩ => by rw [h1, List.map_cons, List.map_cons, repK_ks h3]
theorem repK_mem : ∀ {ks : List (Key × D)} {vs : List (Key × V)} {k : Key} {v : V}, RepK K G ks vs → (k, v) ∈ vs → ∃ d, (k, d) ∈ ks ∧ Rep K G d v
  | [], _, _, _, h, m => by rw [show _ = [] from h] at m; cases m
  | (k', x) :: xs, _, k, v, ⟨v', r, h1, h2, h3⟩, m => by
    rw [h1] at m
    rcases List.mem_cons.mp m with e | m
    · cases e; exact ⟨x, List.mem_cons_self, h2⟩
    · obtain ⟨d, q1, q2⟩ := repK_mem h3 m
      exact ⟨d, List.mem_cons_of_mem _ q1, q2⟩
theorem repK_all {kb : List (Key × D)} {wb : List (Key × V)} (hb : RepK K G kb wb) {e : Key → Bool} : ∀ {ks : List (Key × D)} {vs : List (Key × V)}, RepK K G ks vs → (vs.all fun p => (valV wb p.1).isSome && e p.1) = ks.all fun p => (valD kb p.1).isSome && e p.1
  | [], _, h => by rw [show _ = [] from h]; rfl
  | (k, x) :: xs, _, ⟨v, r, h1, _, h3⟩ => by
    rw [h1, List.all_cons, List.all_cons, repK_all hb h3]
    have : (valV wb k).isSome = (valD kb k).isSome := by
      rcases hb.get (k := k) with ⟨q1, q2⟩ | ⟨d, w, q1, q2, _⟩ <;> rw [q1, q2] <;> rfl
    rw [this]
theorem EqD.v (ex : Ex G H) {n : Nat} {d1 d2 : D} {c : Bool} (h : EqD n d1 d2 c) : ∀ {x y : V}, Top K G H d1 x → Top K G H d2 y → EqV K H n x y c := by
  induction h with
  | @fl n d1 d2 c h =>
    intro x y h1 h2
    obtain ⟨q1, q2⟩ := eqF_scal h h1 h2
    have q3 : sc2 x y = true := by
      unfold eqF at h
      split at h <;> first | cases h | skip
      all_goals (cases h1; cases h2)
      all_goals exact rfl
    rw [← q2]
    exact .scal q3
  | @tup n xs ys e hh ih =>
    rintro x y ⟨a, vs, rfl, sa, ra⟩ ⟨b, ws, rfl, sb, rb⟩
    have l1 := ra.length
    have l2 := rb.length
    rw [← l1, ← l2]
    refine .tup sa sb fun i v w hv hw => ?_
    obtain ⟨d1, g1, q1⟩ := ra.getV hv
    obtain ⟨d2, g2, q2⟩ := rb.getV hw
    exact ih i d1 d2 g1 g2 (q1.top ex) (q2.top ex)
  | @lst n xs ys e hl hh ih =>
    rintro x y ⟨a, vs, rfl, sa, ra⟩ ⟨b, ws, rfl, sb, rb⟩
    have l1 := ra.length
    have l2 := rb.length
    rw [← l1]
    refine .lst (SqL.of sa) (SqL.of sb) (by omega) fun i v w hv hw => ?_
    obtain ⟨d1, g1, q1⟩ := ra.getV hv
    obtain ⟨d2, g2, q2⟩ := rb.getV hw
    exact ih i d1 d2 g1 g2 (q1.top ex) (q2.top ex)
  | @lstL n xs ys hl =>
    rintro x y ⟨a, vs, rfl, sa, ra⟩ ⟨b, ws, rfl, sb, rb⟩
    have l1 := ra.length
    have l2 := rb.length
    exact .lstL (SqL.of sa) (SqL.of sb) (by omega)
  | @dk n ka kb e nd hh ih =>
    rintro x y ⟨a, vs, rfl, sa, ra⟩ ⟨b, ws, rfl, sb, rb⟩
    have l1 := congrArg List.length (repK_ks ra)
    have l2 := congrArg List.length (repK_ks rb)
    rw [List.length_map, List.length_map] at l1 l2
    rw [← l1, ← l2, ← repK_all rb ra]
    refine .dk sa sb (by rw [repK_ks ra]; exact nd) fun k v w hv hw => ?_
    obtain ⟨d1, g1, q1⟩ := repK_mem ra hv
    rcases rb.get (k := k) with ⟨_, z⟩ | ⟨d2, w', q2, q3, q4⟩
    · rw [hw] at z; cases z
    · rw [hw] at q3
      cases q3
      exact ih k d1 d2 g1 q2 (q1.top ex) (q4.top ex)
end
def isC : D → Bool
  | .lst _ => true
  | .tup _ => true
  | .dk _ => true
  | _ => false
def fEqG (d1 d2 : D) (P : R → Prop) : Prop := isC d1 = true ∧ isC d2 = true ∧ ∃ n c, n ≤ 60 ∧ EqD n d1 d2 c ∧ P (.sh (.bl c))
def fNeT (d1 d2 : D) (P : R → Prop) : Prop := ∃ (n : Nat) (c : Nat → Bool) (xs ys : List D), n ≤ 60 ∧ d1 = .tup xs ∧ d2 = .tup ys ∧ (∀ (i : Nat) (x y : D), xs[i]? = some x → ys[i]? = some y → EqD n x y (c i)) ∧ P (.sh (.bl (!((List.range (min xs.length ys.length)).all c && xs.length == ys.length))))
section
variable {X : Cx} {b : Bg} {K : PySem.W.Frag}
theorem top_ref {G H : Hp} {d : D} {x : V} (h : isC d = true) (t : Top K G H d x) : ∃ a, x = .ref a := by
  cases d with
  | lst xs => obtain ⟨a, _, e, _⟩ := t; exact ⟨a, e⟩
  | tup xs => obtain ⟨a, _, e, _⟩ := t; exact ⟨a, e⟩
  | dk xs => obtain ⟨a, _, e, _⟩ := t; exact ⟨a, e⟩
  | _ => cases h
theorem lo_eqG : LO K (fun x y H Q => (∃ a b, x = .ref a ∧ y = .ref b) ∧ rEqV K x y H Q) fEqG := LO.flat fun G H d1 d2 x y P Q ex h1 h2 ⟨c1, c2, n, c, hn, h, p⟩ k => by
  obtain ⟨a, rfl⟩ := top_ref c1 h1
  obtain ⟨b, rfl⟩ := top_ref c2 h2
  exact ⟨⟨a, b, rfl, rfl⟩, n, c, hn, h.v ex h1 h2, k _ (.bl c) rfl p⟩
theorem lo_neT : LO K (rNeT K) fNeT := LO.flat fun G H d1 d2 x y P Q ex h1 h2 ⟨n, c, xs, ys, hn, e1, e2, h, p⟩ k => by
  subst e1; subst e2
  obtain ⟨a, vs, rfl, sa, ra⟩ := h1
  obtain ⟨b, ws, rfl, sb, rb⟩ := h2
  have l1 := ra.length
  have l2 := rb.length
  refine ⟨n, c, a, b, vs, ws, hn, rfl, rfl, sa, sb, fun i v w hv hw => ?_, ?_⟩
  · obtain ⟨d1, g1, q1⟩ := ra.getV hv
    obtain ⟨d2, g2, q2⟩ := rb.getV hw
    exact (h i d1 d2 g1 g2).v ex (q1.top ex) (q2.top ex)
  · rw [l1, l2]
    exact k _ (.bl _) rfl p
theorem d_eqG {a c : Expr} {u1 u2 : DE} {pos : Pos} (hu : X.A.units + 64 < cLine) (h1 : PD X b a u1) (h2 : PD X b c u2) : PD X b (.Compare a [.Eq] [c] pos) (uBin fEqG u1 u2) := d_cmp (op_eqV hu) lo_eqG (nomark _) h1 h2
theorem dt_eqG {a c : Expr} {u1 u2 : DE} {pos : Pos} (hu : X.A.units + 64 < cLine) (h1 : PD X b a u1) (h2 : PD X b c u2) : PDT X b (.Compare a [.Eq] [c] pos) (uTest (uBin fEqG u1 u2)) := dt_cmp (op_eqV hu) lo_eqG (nomark _) h1 h2
theorem d_neT {a c : Expr} {u1 u2 : DE} {pos : Pos} (hu : X.A.units + 64 < cLine) (h1 : PD X b a u1) (h2 : PD X b c u2) : PD X b (.Compare a [.NotEq] [c] pos) (uBin fNeT u1 u2) := d_cmp (op_neT hu) lo_neT (nomark _) h1 h2
theorem dt_neT {a c : Expr} {u1 u2 : DE} {pos : Pos} (hu : X.A.units + 64 < cLine) (h1 : PD X b a u1) (h2 : PD X b c u2) : PDT X b (.Compare a [.NotEq] [c] pos) (uTest (uBin fNeT u1 u2)) := dt_cmp (op_neT hu) lo_neT (nomark _) h1 h2
end
/-- a thing and itself -/
def okG : Nat → D → Bool
  | _, .non => true
  | _, .bl _ => true
  | _, .int _ => true
  | _, .str _ => true
  | n + 1, .lst xs => xs.all (okG n)
  | n + 1, .tup xs => xs.all (okG n)
  | n + 1, .dk kvs => decide (kvs.map (·.1)).Nodup && kvs.all fun p => okG n p.2
  | _, _ => false
theorem valD_nodup : ∀ {ks : List (Key × D)} {k : Key} {v : D}, (ks.map (·.1)).Nodup → (k, v) ∈ ks → valD ks k = some v
  | p :: r, k, v, nd, h => by
    rw [List.map_cons, List.nodup_cons] at nd
    unfold valD
    rw [List.find?_cons]
    rcases List.mem_cons.mp h with rfl | h
    · simp
    · have ne : ¬ p.1 = k := fun z => nd.1 (List.mem_map.mpr ⟨(k, v), h, z.symm⟩)
      rw [decide_eq_false ne]
      exact valD_nodup nd.2 h
theorem all_T (n : Nat) : ((List.range n).all fun _ => true) = true := List.all_eq_true.mpr fun _ _ => rfl
theorem EqD.self : ∀ {n : Nat} {d : D}, okG n d = true → EqD n d d true
  | n, .non, _ => .fl rfl
  | n, .bl c, _ => by have z : EqD n (.bl c) (.bl c) (decide (c = c)) := .fl rfl
                      rwa [decide_eq_true rfl] at z
  | n, .int c, _ => by have z : EqD n (.int c) (.int c) (decide (c = c)) := .fl rfl
                       rwa [decide_eq_true rfl] at z
  | n, .str c, _ => by have z : EqD n (.str c) (.str c) (decide (c = c)) := .fl rfl
                       rwa [decide_eq_true rfl] at z
  | n + 1, .lst xs, h => by
    have all : ∀ x ∈ xs, okG n x = true := by
      have h : xs.all (okG n) = true := h
      exact List.all_eq_true.mp h
    have z := EqD.lst (n := n) (xs := xs) (ys := xs) (e := fun _ => true) rfl fun i x y hx hy => by
      rw [hx] at hy
      cases hy
      exact EqD.self (all x (List.mem_of_getElem? hx))
    simpa [all_T] using z
  | n + 1, .tup xs, h => by
    have all : ∀ x ∈ xs, okG n x = true := by
      have h : xs.all (okG n) = true := h
      exact List.all_eq_true.mp h
    have z := EqD.tup (n := n) (xs := xs) (ys := xs) (e := fun _ => true) fun i x y hx hy => by
      rw [hx] at hy
      cases hy
      exact EqD.self (all x (List.mem_of_getElem? hx))
    simpa [all_T] using z
  | n + 1, .dk kvs, h => by
    have h : (decide (kvs.map (·.1)).Nodup && kvs.all fun p => okG n p.2) = true := h
    rw [Bool.and_eq_true, decide_eq_true_iff] at h
    obtain ⟨nd, h⟩ := h
    have all := List.all_eq_true.mp h
    have z := EqD.dk (n := n) (ka := kvs) (kb := kvs) (e := fun _ => true) nd fun k v y hv hy => by
      rw [valD_nodup nd hv] at hy
      cases hy
      exact EqD.self (all (k, v) hv)
    have e : (kvs.all fun p => (valD kvs p.1).isSome && true) = true := by
      rw [List.all_eq_true]
      rintro ⟨k, v⟩ hm
      show ((valD kvs k).isSome && true) = true
      rw [valD_nodup nd hm]; rfl
    rw [e] at z
    simpa using z
  | 0, .lst _, h => by cases h
  | 0, .tup _, h => by cases h
  | 0, .dk _, h => by cases h
  | 0, .obj _ _, h => by cases h
  | _ + 1, .obj _ _, h => by cases h
  | 0, .fn _, h => by cases h
  | _ + 1, .fn _, h => by cases h
  | 0, .exc _ _, h => by cases h
  | _ + 1, .exc _ _, h => by cases h
  | 0, .tabl _ _, h => by cases h
  | _ + 1, .tabl _ _, h => by cases h
theorem eqG_self {n : Nat} {d : D} {P : R → Prop} (c : isC d = true) (hn : n ≤ 60) (h : okG n d = true) (p : P (.sh (.bl true))) : fEqG d d P := ⟨c, c, n, true, hn, EqD.self h, p⟩
theorem neT_self {n : Nat} {xs : List D} {P : R → Prop} (hn : n ≤ 60) (h : ∀ x ∈ xs, okG n x = true) (p : P (.sh (.bl false))) : fNeT (.tup xs) (.tup xs) P := by
  refine ⟨n, fun _ => true, xs, xs, hn, rfl, rfl, fun i x y hx hy => ?_, ?_⟩
  · rw [hx] at hy
    cases hy
    exact EqD.self (h x (List.mem_of_getElem? hx))
  · simpa [all_T] using p
end DL
namespace DL
open PySem L2 PyProof.Rows
/-! ### x, y = a, c where x or y is seen by an inner def: through a tuple that nobody keeps -/
section
variable {X : Cx} {b : Bg}
theorem ds_parC {i j : Nat} {x y : Str} {a c : Expr} {u1 u2 : DE} (o1 o2 : Bool) {px py pt pos : Pos} {kt k2 pt2} (hN : X.N.Nodup) (h1 : PD X b a u1) (h2 : PD X b c u2) (hx : Loc X.env.scope x) (hy : Loc X.env.scope y) (fx : X.fn x = true ∨ X.env.scope.names.lookup x = some .local) (fy : X.fn y = true ∨ X.env.scope.names.lookup y = some .local) (hij : i ≠ j := by decide)
    (hi : X.N[i]? = some x := by rfl) (hj : X.N[j]? = some y := by rfl) (hs : starEach (a :: [c]) X.env = (false, eval a X.env) :: starEach [c] X.env := by rfl) (hs2 : starEach (c :: []) X.env = (false, eval c X.env) :: starEach [] X.env := by rfl)
    (hc : X.calm = true := by rfl) (hsw : swapsWithSole [.Tuple [.Name x px, .Name y py] kt pt] (.Tuple [a, c] k2 pt2) pos.line X.env = pure false := by rfl) (hw : swappedStores [.Tuple [.Name x px, .Name y py] kt pt] (.Tuple [a, c] k2 pt2) X.env = pure none := by rfl) :
    PDS X b (.Assign [.Tuple [.Name x px, .Name y py] kt pt] (.Tuple [a, c] k2 pt2) pos) (uPar i j o1 o2 u1 u2) := by
  obtain ⟨t1, p1, l1⟩ := h1
  obtain ⟨t2, p2, l2⟩ := h2
  refine ⟨_, ps_asg (pe_tup (pa_cons p1 (pa_cons p2 pa_nil hs2) hs)) (pg_tup (n := 2) hc (pgs_cons (pg_name hN hi hx fx) (pgs_cons (pg_name hN hj hy fy) pgs_nil))) hsw hw, ?_⟩
  intro L G0 H0 G H σ e DD D g ok hu
  refine l1 L G0 H0 G H σ e _ _ g hu fun v r1 G1 H1 s1 hr1 q1 => ?_
  have g1 := g.step s1
  refine l2 L G0 H0 G1 H1 σ e _ _ g1 q1 fun w r2 G2 H2 s2 hr2 q2 => ?_
  have g2 := g1.step s2
  refine ⟨by show 2 ≤ sizeLine; rw [sizeLine_eq]; decide, fun p np => ?_⟩
  have s3 : Stp b [] G2 H2 (L2.upd G2 p (.tup [v, w])) (L2.upd H2 p (.tup [v, w])) := Stp.laid g2.ex np
  have g3 := g2.step s3
  refine ⟨p, _, rfl, .inl (.inl upd_same), rfl, v, [w], rfl, w, [], rfl, rfl, ?_⟩
  have hr1' := (hr1.step s2).step s3
  have hr2' := hr2.step s3
  have x1 : RepX X.K b H0 σ e (L2.upd G2 p (.tup [v, w])) (L2.upd H2 p (.tup [v, w])) r1 v := by
    cases r1 with
    | sh d => exact hr1'
    | al i o => exact hr1'
    | ow o => obtain ⟨a, ho, e1, e2, e3, e4⟩ := hr1'; exact ⟨a, ho, e1, e2, g.fresh e2 e3, e4⟩
  obtain ⟨s, G4, g4, q3, sub, kp, ks⟩ := g3.into i x1 q2
  have x2 : RepX X.K b H0 (σ.set i (some v)) (e.set i s) G4 (L2.upd H2 p (.tup [v, w])) r2 w := by
    cases r2 with
    | sh d => exact Rep.mono sub hr2'
    | al k o => exact q3.elim
    | ow o =>
      obtain ⟨a, ho, e1, e2, e3, e4, e5, e6⟩ := hr2'
      have nv : ∀ o, r1 = .ow o → v ≠ .ref a := fun o1 z0 z => by
        subst z0
        subst z
        obtain ⟨a1, ho1, z1, z2, z3, z4, z5, _⟩ := hr1
        cases z1
        rw [e3] at z5; cases z5
      have f2 := g1.fresh e2 e3
      refine ⟨a, ho, e1, e2, ⟨f2.1, fun j' t' o' hj' hs' => ?_⟩, kp a nv e4, e5, e6.mono sub⟩
      rw [get_set] at hj' hs'
      by_cases c : i = j'
      · rw [if_pos c] at hs'
        rw [if_pos c] at hj'
        split at hj'
        · cases hj'
          obtain ⟨o1, z0⟩ := ks _ o' rfl
          split at hs'
          · cases hs'
            exact nv o1 z0 rfl
          · cases hs'
        · cases hj'
      · rw [if_neg c] at hj' hs'
        exact f2.2 j' t' o' hj' hs'
  obtain ⟨s', G5, g5, q4, _⟩ := g4.into j x2 q3
  exact ok.nx _ _ _ _ g5 q4
end
end DL
/-! ### own error classes under LookupError -/
namespace PySem
namespace DLX
open PySem.W PySem.Calls PyProof.Rows PySem.HandSPX PySem.OEX Builtin Builtin.ObjectAttr
def leTail : List Value := [.type "LookupError", .type "Exception", .type "BaseException", .type "object"]
/-- own classes ahead of LookupError -/
def LeMro (l : List Value) : Prop := ∃ cs : List Addr, l = cs.map Value.ref ++ leTail
theorem le_has (Y : String) : ∀ cs : List Addr, (cs.map Value.ref ++ leTail).contains (.type Y) = leTail.contains (.type Y)
  | [] => rfl
  | c :: cs => by
    rw [List.map_cons, List.cons_append, List.contains_cons, le_has Y cs]
    rfl
theorem le_pass (self : Value) : ∀ cs : List Addr, refuseLoop self "__setattr__" (cs.map Value.ref ++ leTail) = pure ()
  | [] => F.store_LookupError.passes self
  | c :: cs => by
    rw [List.map_cons, List.cons_append, refuseLoop_ref]
    exact le_pass self cs
section
variable {prog : Program} {w : World} {A : Around} {R : Result → Shared → Prop} {hp : Heap} {gs : Array GenState} {dr : Drawn} {tk : Nat} {os : OsState} {K : W.Frag} {f : Str} {tf : Tok} {y : Value} {a C : Addr} {fields : Array Value} {info : ClassData}
/-- the first field of a fresh exception -/
theorem le_first (KX : K.In hp) (at_ : hp.get? a = some { cls := .ref C, data := .fields fields }) (inf : W.clsIn K C = some info) (le : LeMro info.mro) (dct : info.hasDict = true) (noA : W.findIn K (.ref C) f = some none)
    (fin : ∀ h' t' dx, (∀ b o, b ≠ a → hp.get? b = some o → h'.get? b = some o) → hp.objs.size ≤ dx → dx ≠ a → h'.get? a = some { cls := .ref C, dict := some dx, data := .fields fields } →
      h'.Ns1 dx (fun z => if z = f then some y else none) → R (.ok (.ret .none)) ⟨h', gs, dr, t', os⟩) :
    codeAny (model prog w) A (.call (.builtin "object.__setattr__") ⟨[.ref a, .str f tf, y], []⟩) R ⟨hp, gs, dr, tk, os⟩ := by
  obtain ⟨cs, hcs⟩ := le
  have inst : W.InstAt hp a { cls := .ref C, data := .fields fields } C none := ⟨at_, rfl, rfl, trivial⟩
  have full : info.mro.isEmpty = false := by rw [hcs]; cases cs <;> rfl
  have objIn : info.mro.contains (.type "object") = true := by rw [hcs, le_has]; decide +kernel
  have fresh : a ≠ hp.objs.size := Nat.ne_of_lt (Heap.lt_size at_)
  have isObj : W.Looks (model prog w) hp (isInstance (.ref a) (.type "object")) true := inst.type.andThen (W.looks_mroIn KX (by unfold W.mroIn; rw [inf, Option.bind_some, if_neg (by rw [full]; decide), objIn]))
  refine codeAny_call_builtin F.store_object.slot.plain F.store_object.entry (@W.check_slot (model prog w) _ _ ⟨hp, gs, dr, tk, os⟩ "object.__setattr__" "object" "__setattr__" (.ref a) [.str f tf, y] [] _ F.store_object.kind F.store_object.split isObj (F.store_object.args (.ref a) (.str f tf) y) ?_)
  have mroL : W.Looks (model prog w) hp (mroOf (.ref C)) info.mro := (W.looks_clsIn KX inf).andThen .now
  have takerL : W.Looks (model prog w) hp (storeTaker? none) none := .now
  have infL : W.Looks (model prog w) hp (classData C) info := W.looks_clsIn KX inf
  rw [W.osa_eq, refuse_eq]
  refine wpAny_bind (wpAny_bind (inst.type.at (wpAny_bind (mroL.at ?_))))
  rw [hcs, le_pass]
  refine wpAny_pure (wpAny_bind (inst.type.at (wpAny_bind ((W.looks_findIn KX noA).at (wpAny_bind (takerL.at ?_))))))
  show wpAny _ _ (storeInOwnDict (.ref a) (.ref C) (.str f tf) f y false) _ _ _
  obtain ⟨i1, i2, i3, i4, i5, i6, i7, i8, i9, i10, i11⟩ := info
  dsimp only at dct
  subst dct
  unfold storeInOwnDict ownDictForStores
  repeat (first | with_reducible refine store_in_new ?_ ?_ | with_reducible refine wpAny_loadPart_at at_ ?_ | with_reducible refine infL.at ?_ | wp_step)
  · exact ⟨_, #[], _, (Heap.get?_update_ne _ _ _ _ fresh.symm).trans (Heap.get?_push_at rfl rfl), rfl, fun e he => absurd he (by simp), fun _ => rfl⟩
  · intro h' t' ns1 same
    have at2 : (hp.push { cls := .type "dict", data := .dict #[] }).get? a = some { cls := .ref C, data := .fields fields } := Heap.get?_push_of_some _ at_
    refine fin h' t' hp.objs.size (fun b o nb ob => ?_) (Nat.le_refl _) fresh.symm ?_ ns1
    · exact (same.2 b (Nat.ne_of_lt (Heap.lt_size ob))).trans ((Heap.get?_update_ne _ _ _ _ nb).trans (Heap.get?_push_of_some _ ob))
    · exact (same.2 a fresh).trans (Heap.get?_update_self _ at2 rfl)
/-- a further field -/
theorem le_more {dx : Addr} {mA : Str → Option Value} {names : List Str} (KX : K.In hp) (at_ : hp.get? a = some { cls := .ref C, dict := some dx, data := .fields fields }) (ns : hp.Ns1 dx mA) (wi : Within mA names) (few : names.length ≤ 1000) (inf : W.clsIn K C = some info) (le : LeMro info.mro) (dct : info.hasDict = true)
    (noA : W.findIn K (.ref C) f = some none) (fin : ∀ h' t', (∀ b o, b ≠ dx → hp.get? b = some o → h'.get? b = some o) → h'.Ns1 dx (fun z => if z = f then some y else mA z) → R (.ok (.ret .none)) ⟨h', gs, dr, t', os⟩) :
    codeAny (model prog w) A (.call (.builtin "object.__setattr__") ⟨[.ref a, .str f tf, y], []⟩) R ⟨hp, gs, dr, tk, os⟩ := by
  obtain ⟨cs, hcs⟩ := le
  obtain ⟨od, _, _, atD, _, _⟩ := ns.count wi
  have inst : W.InstAt hp a { cls := .ref C, dict := some dx, data := .fields fields } C (some od) := ⟨at_, rfl, rfl, atD⟩
  have full : info.mro.isEmpty = false := by rw [hcs]; cases cs <;> rfl
  have objIn : info.mro.contains (.type "object") = true := by rw [hcs, le_has]; decide +kernel
  have isObj : W.Looks (model prog w) hp (isInstance (.ref a) (.type "object")) true := inst.type.andThen (W.looks_mroIn KX (by unfold W.mroIn; rw [inf, Option.bind_some, if_neg (by rw [full]; decide), objIn]))
  refine codeAny_call_builtin F.store_object.slot.plain F.store_object.entry (@W.check_slot (model prog w) _ _ ⟨hp, gs, dr, tk, os⟩ "object.__setattr__" "object" "__setattr__" (.ref a) [.str f tf, y] [] _ F.store_object.kind F.store_object.split isObj (F.store_object.args (.ref a) (.str f tf) y) ?_)
  have mroL : W.Looks (model prog w) hp (mroOf (.ref C)) info.mro := (W.looks_clsIn KX inf).andThen .now
  have takerL : W.Looks (model prog w) hp (storeTaker? none) none := .now
  have infL : W.Looks (model prog w) hp (classData C) info := W.looks_clsIn KX inf
  rw [W.osa_eq, refuse_eq]
  refine wpAny_bind (wpAny_bind (inst.type.at (wpAny_bind (mroL.at ?_))))
  rw [hcs, le_pass]
  refine wpAny_pure (wpAny_bind (inst.type.at (wpAny_bind ((W.looks_findIn KX noA).at (wpAny_bind (takerL.at ?_))))))
  show wpAny _ _ (storeInOwnDict (.ref a) (.ref C) (.str f tf) f y false) _ _ _
  obtain ⟨i1, i2, i3, i4, i5, i6, i7, i8, i9, i10, i11⟩ := info
  dsimp only at dct
  subst dct
  unfold storeInOwnDict ownDictForStores
  repeat (first | with_reducible refine store_in_old ns wi few ?_ | with_reducible refine wpAny_loadPart_at at_ ?_ | with_reducible refine infL.at ?_ | wp_step)
  intro h' t' ns1 same
  exact fin h' t' (fun b o nb ob => (same.2 b nb).trans ob) ns1
end
end DLX
end PySem
namespace DL
open PySem L2 PyProof.Rows PySem.DLX
structure OexL (K : PySem.W.Frag) (C : Addr) : Prop where
  cls : ∃ nm q N bs bm sn sub ab col dd k0 k1 k2 k3 k5, K.lookup C = some (excClassObj nm q C N bs bm true sn sub ab col dd k0 k1 k2 k3 k5 "LookupError.__new__") ∧ LeMro bm
  sa : PySem.W.findIn K (.ref C) "__setattr__" = some (some (.builtin "object.__setattr__"))
  ex : PySem.W.subIn K (.ref C) (.type "BaseException") = some true
  ty : PySem.W.typeIn K (.ref C) = some (.type "type")
  kp : PySem.W.keepIn K (.ref C) = true
section
variable {X : Cx} {pins : List (Addr × Obj)} {σ : L2.St} {H : Hp} {s : Shared} {a C dx : Addr} {f : Str} {y : V} {u : Value} {fs : List (Str × V)} {Q : Unit → Shared → Prop} {E : Value → Shared → Prop} {A : Around}
theorem le_new (T : OexL X.K C) (I : Inv X pins σ H s) (ea : H a = some (exo a C none)) (noA : PySem.W.findIn X.K (.ref C) f = some none) (ry : RelV y u)
    (fin : ∀ dx s', H dx = none → dx ≠ a → Inv X pins σ (L2.upd (L2.upd H dx (exd dx [(f, y)])) a (exo a C (some dx))) s' → Q () s') : wpAny (model X.prog X.w) A (setAttr (.ref a) f u) Q E s := by
  obtain ⟨nm, q, N, bs, bm, sn, sub, ab, col, dd, k0, k1, k2, k3, k5, atC, cs, hbm⟩ := T.cls
  have inf : PySem.W.clsIn X.K C = some { name := nm, bases := bs, mro := .ref C :: bm, ns := N, qualname := q, hasDict := true, slotNames := sn, subclasses := sub, abstract := ab, collection := col, hasDel := false } := by
    unfold PySem.W.clsIn
    rw [atC] <;> rfl
  obtain ⟨t1, at_⟩ := exo_at I.hok ea
  obtain ⟨hp, gs, dr, tk, os⟩ := s
  refine PySem.W.set_plain I.kIn (ox := ⟨.ref C, none, .fields #[.ref t1, .none, .none, .none, .bool false, .none], #[]⟩) (od := none) ⟨at_, rfl, rfl, trivial⟩ T.sa ?_
  refine le_first I.kIn at_ inf ⟨C :: cs, by rw [hbm]; rfl⟩ rfl noA (fun h' tk' dx keep big ne hx hn => ?_)
  have nd : H dx = none := I.hok.fresh big
  have offD : ∀ {b : Addr} {o : Obj}, hp.get? b = some o → b ≠ dx := fun {b o} z => Nat.ne_of_lt (Nat.lt_of_lt_of_le (Heap.lt_size z) big)
  have offA : ∀ {b : Addr}, H b = none → b ≠ a := fun {b} n z => by
    subst z
    rw [ea] at n
    cases n
  have un : Un X.fs [] H (L2.upd (L2.upd H dx (exd dx [(f, y)])) a (exo a C (some dx))) hp h' := {
    keep := fun b o z n _ _ => keep b o (offA n) z
    slot := fun b o z n _ _ => ⟨o.slots, keep b o (offA n) z⟩
    free := fun b o z n _ => by
      rw [upd_ne (offA n), upd_ne (offD z)]
      exact n
    there := fun b o z _ => by
      by_cases e : b = a
      · subst e
        exact ⟨_, hx⟩
      · exact ⟨o, keep b o e z⟩
    tups := fun b xs z => by
      rw [upd_ne (at_ne ea z exo_tup), upd_ne (ne_of_none z nd)]
      exact z
    frzs := fun b o v z => by
      rw [upd_ne (at_ne ea z exo_frz), upd_ne (ne_of_none z nd)]
      exact z
    tbls := fun b ps z => ⟨#[], by rw [upd_ne (at_ne ea z exo_tbl), upd_ne (ne_of_none z nd), z]; simp⟩ }
  refine fin dx _ nd ne (I.un (t' := tk') un fun b o z => ?_)
  by_cases e : b = a
  · subst e
    rw [upd_same] at z
    cases z
    exact exo_ok hx
  rw [upd_ne e] at z
  by_cases e2 : b = dx
  · subst e2
    rw [upd_same] at z
    cases z
    exact exd_ok hn (relO_put (fs := []) ry fun g => True.intro)
  rw [upd_ne e2] at z
  refine (I.hok b o z).stay (fun c v hc w => keep c v (?_ : c ≠ a) w) (fun c hc => ?_) (fun c xs hc => ?_)
  · rcases hc with rfl | hc
    · exact e
    · exact at_ne ea hc exo_own
  · rw [upd_ne (at_ne ea hc exo_own), upd_ne (ne_of_none hc nd)]; exact hc
  · rw [upd_ne (at_ne ea hc exo_tup), upd_ne (ne_of_none hc nd)]; exact hc
theorem le_old (T : OexL X.K C) (I : Inv X pins σ H s) (ea : H a = some (exo a C (some dx))) (ed : H dx = some (exd dx fs)) (few : fs.length ≤ 900) (noA : PySem.W.findIn X.K (.ref C) f = some none) (ry : RelV y u)
    (fin : ∀ s', Inv X pins σ (L2.upd H dx (exd dx ((f, y) :: fs))) s' → Q () s') : wpAny (model X.prog X.w) A (setAttr (.ref a) f u) Q E s := by
  obtain ⟨nm, q, N, bs, bm, sn, sub, ab, col, dd, k0, k1, k2, k3, k5, atC, cs, hbm⟩ := T.cls
  have inf : PySem.W.clsIn X.K C = some { name := nm, bases := bs, mro := .ref C :: bm, ns := N, qualname := q, hasDict := true, slotNames := sn, subclasses := sub, abstract := ab, collection := col, hasDel := false } := by
    unfold PySem.W.clsIn
    rw [atC] <;> rfl
  obtain ⟨t1, at_⟩ := exo_at I.hok ea
  obtain ⟨mA, hns, rel⟩ := exd_at I.hok ed
  have wi := within_of rel
  obtain ⟨hp, gs, dr, tk, os⟩ := s
  obtain ⟨od, _, _, atD, _, _⟩ := hns.count wi
  refine PySem.W.set_plain I.kIn (ox := ⟨.ref C, some dx, .fields #[.ref t1, .none, .none, .none, .bool false, .none], #[]⟩) (od := some od) ⟨at_, rfl, rfl, atD⟩ T.sa ?_
  refine le_more I.kIn at_ hns wi (by rw [List.length_map]; omega) inf ⟨C :: cs, by rw [hbm]; rfl⟩ rfl noA (fun h' tk' keep hn => ?_)
  obtain ⟨o, es, ep, e1, e2⟩ := id hn
  exact fin _ (I.write (t' := tk') (x := dx) (e := dx) (o := exd dx ((f, y) :: fs)) (by rw [ed]; exact True.intro) (.inl rfl) keep ⟨o, e1⟩ (exd_ok hn (relO_put ry rel)))
end
/-- self.f = e in such an __init__ -/
def tOstL (K : PySem.W.Frag) (f : Str) (to te : TE) : TS := fun D σ H => te σ H fun y H1 => to σ H1 fun x H2 => ∃ a C : Addr, x = .ref a ∧ OexL K C ∧ PySem.W.findIn K (.ref C) f = some none ∧
  ((H2 a = some (exo a C none) ∧ ∀ dx, H2 dx = none → dx ≠ a → D.nx σ (L2.upd (L2.upd H2 dx (exd dx [(f, y)])) a (exo a C (some dx)))) ∨
    ∃ (dx : Addr) (fs : List (Str × V)), H2 a = some (exo a C (some dx)) ∧ H2 dx = some (exd dx fs) ∧ fs.length ≤ 900 ∧ D.nx σ (L2.upd H2 dx (exd dx ((f, y) :: fs))))
theorem ps_ostL {X : Cx} {o e : Expr} {to te : TE} {f : Str} {p' pos : Pos} (ho : PE X o to) (he : PE X e te) (hs : swapsWith e (some (.Attribute o f p')) pos.line X.env = pure false := by rfl) : PS X (.Assign [.Attribute o f p'] e pos) (tOstL X.K f to te) := by
  refine ⟨fun pins s σ H D I h => plainObj_wpAny_Assign_Attribute (thn (he.run pins s σ H _ I h) fun v s1 ⟨y, H1, I1, r1, q1⟩ => ?_) hs⟩
  refine thn (ho.run pins s1 σ H1 _ I1 q1) fun u s2 ⟨x, H2, I2, r2, a, C, ex, T, noA, q⟩ => ?_
  subst ex
  cases r2
  rcases q with ⟨ea, q⟩ | ⟨dx, fs, ea, ed, few, q⟩
  · exact le_new T I2 ea noA r1 fun dx s' n ne J => ⟨σ, _, J, q dx n ne⟩
  · exact le_old T I2 ea ed few noA r1 fun s' J => ⟨σ, _, J, q⟩
/-- C(e, ..) -/
theorem pmk_oexL {X : Cx} {CX : CXT} {x : Str} {C fI : Addr} {k : Nat} {fd : FuncData} {ps : List Str} {sp : Sp} {e : Expr} {es : List Expr} {ta : TA} {p pos : Pos} (T : OexL X.K C) (iC : PySem.W.findIn X.K (.ref C) "__init__" = some (some (.ref fI))) (tI : PySem.W.typeIn X.K (.ref fI) = some (.type "function"))
    (F1 : FnOk X.prog X.w X.K X.mg X.base CX k fI fd ps sp) (hr : Room (k + 1) X.A) (hb : Binds X.K fd ps []) (hx : Passes CX X (fun _ _ _ => False)) (hg : Gl X x) (hm : X.mg x = some (.ref C)) (ha : PA X (e :: es) ta)
    (hdb : (x == ("__debug__" : Str)) = false) (he : starEach (e :: es) X.env = (false, eval e X.env) :: starEach es X.env) (hpl : (backTo pos (starEach es X.env)).any (·.1) = false) : PMk X (.Call (.Name x p) (e :: es) [] pos) (tMkO C sp [] ta) := by
  intro pins s σ H Q I h
  obtain ⟨nm, q, N, bs, bm, sn, sub, ab, col, dd, k0, k1, k2, k3, k5, atC, cs, hbm⟩ := T.cls
  refine wpAny_Call_Name_kw (ld_glob I hg hm (PySem.W.callWith_K (h₀ := X.base) I.ok.mod.kin T.kp (thn (ha.run pos pins s σ H _ I h) fun us s1 hh => ?_) he hpl) hdb)
  obtain ⟨vs, H1, I1, r1, hz, q1⟩ := hh
  refine ⟨I1.kIn, ?_⟩
  show wpAny _ _ (call (.ref C) us) _ _ _
  obtain ⟨hp, gs, dr, tk, os⟩ := s1
  have z1 : hp.objs.size ≤ hp.objs.size + 1 := Nat.le_succ _
  have hq := q1 (hp.objs.size + 1) (I1.hok.fresh z1)
  have ext : ∀ c o, hp.get? c = some o → ((hp.push (PySem.W.kdv_tup us)).push (PySem.HandSPX.excO C hp.objs.size)).get? c = some o := fun c o z => Heap.get?_push_of_some _ (Heap.get?_push_of_some _ z)
  have at_ : ((hp.push (PySem.W.kdv_tup us)).push (PySem.HandSPX.excO C hp.objs.size)).get? (hp.objs.size + 1) = some (PySem.HandSPX.excO C hp.objs.size) := by heap_get
  have J : Inv X pins σ (L2.upd H1 (hp.objs.size + 1) (exo (hp.objs.size + 1) C none)) ⟨(hp.push (PySem.W.kdv_tup us)).push (PySem.HandSPX.excO C hp.objs.size), gs, dr, tk, os⟩ := I1.laid (t' := tk) (a := hp.objs.size + 1) (o := exo (hp.objs.size + 1) C none) ext z1 (exo_ok at_)
  have rv : Vals (V.ref (hp.objs.size + 1) :: (vs ++ [])) (Value.ref (hp.objs.size + 1) :: (us ++ [])) := by
    rw [List.append_nil, List.append_nil]
    exact .cons rfl r1
  have len1 : (Value.ref (hp.objs.size + 1) :: us ++ []).length = ps.length := by
    have z := rv.length
    rw [F1.len _ _ _ _ hq] at z
    exact z.symm
  have bound := hb ⟨(hp.push (PySem.W.kdv_tup us)).push (PySem.HandSPX.excO C hp.objs.size), gs, dr, tk, os⟩ (Value.ref (hp.objs.size + 1) :: us) J.kIn len1
  rw [List.cons_append] at bound
  have few : us.length ≤ sizeLine := by
    rw [← r1.length, sizeLine_eq]
    omega
  refine wpAny_call (PySem.HandSPX.call_own F.excBase_LookupError (fun Y => by rw [hbm]; exact le_has Y cs) (I1.kIn _ _ atC) (PySem.W.looks_findIn I1.kIn iC) (fun self => PySem.W.bind_fn I1.kIn self tI) few
    (codeAny_mono (F1.run _ X.stack _ _ ⟨Value.ref (hp.objs.size + 1) :: us, []⟩ (Value.ref (hp.objs.size + 1) :: (us ++ [])) _ _ (fun _ _ _ => False) (hr.make C us []) (J.env0.make C us []) bound rv hq) fun r s' hr' => ?_))
  cases r with
  | error er => exact hx pins σ _ _ er s' J hr'
  | ok fl =>
    cases fl with
    | ret u =>
      obtain ⟨v, H2, os2, bare2, un2, hok2, rvv, ev, d, fs, ea, ed, hd1, q2⟩ := hr'
      subst ev
      obtain ⟨h2, g2, d2, t2, os'⟩ := s'
      exact ⟨rvv, mk_end (raises_own T.ex T.ty) I1 z1 ext un2 hok2 os2 bare2 ea ed hd1 q2⟩
    | next => exact hr'.elim
    | brk => exact hr'.elim
    | cont => exact hr'.elim
structure KnownEL (P : Program) (w : World) (K : PySem.W.Frag) (mg : Str → Option Value) (base : Heap) (x : Str) (C : Addr) (k : Nat) (ps : List Str) (fE : List D → Option (List (Str × D))) : Prop where
  ex : ∃ fI fd, FnOk P w K mg base CX0 k fI fd ps (spE K C fE) ∧ OexL K C ∧ PySem.W.findIn K (.ref C) "__init__" = some (some (.ref fI)) ∧ PySem.W.typeIn K (.ref fI) = some (.type "function") ∧ Binds K fd ps [] ∧ mg x = some (.ref C)
theorem ds_raiseL {X : Cx} {b : Bg} {x : Str} {C : Addr} {k : Nat} {ps : List Str} {fE : List D → Option (List (Str × D))} {a : Expr} {es : List Expr} {ua : DA} {p cpos pos : Pos} (tk : L2.Takes X b.W) (F : KnownEL X.prog X.w X.K X.mg X.base x C k ps fE) (hr : Room (k + 1) X.A) (ha : PDA X b (a :: es) ua) (hg : Gl X x := by rfl) (hc : X.calm = true := by rfl)
    (hdb : (x == ("__debug__" : Str)) = false := by decide) (he : starEach (a :: es) X.env = (false, eval a X.env) :: starEach es X.env := by rfl) (hpl : (backTo cpos (starEach es X.env)).any (·.1) = false := by rfl) : PDS X b (.Raise (some (.Call (.Name x p) (a :: es) [] cpos)) none pos) (uRaise b.xp C fE ua) := by
  obtain ⟨fI, fd, F1, T, iC, tI, hb, hm⟩ := F
  obtain ⟨t, pa, l⟩ := ha
  exact ⟨_, L2.ps_raise hc tk (pmk_oexL T iC tI F1 hr hb pass0 hg hm pa hdb he hpl), raise_core l⟩
section
variable {P : Program} {w : World} {K : PySem.W.Frag} {mg : Str → Option Value} {base : Heap}
theorem fnE2L {qual y ff gg cc : Str} {st : Stmt} {f C : Addr} {fd : FuncData} {k : Nat} {p1 p2 p3 p4 p5 p6 q1 q2 : Pos} {j : Nat} (F : Fun K "__init__" qual st f fd) (S : FnScope ["self", y] ["self", y] (defScope st)) (T : OexL K C) (n1 : PySem.W.findIn K (.ref C) ff = some none) (n2 : PySem.W.findIn K (.ref C) gg = some none) (nfg : (ff == gg) = false)
    (hst : defBody st = [.Assign [.Attribute (.Name "self" p1) ff p2] (.Name y p3) q1, .Assign [.Attribute (.Name "self" p4) gg p5] (.Constant (.str cc) j p6) q2])
    (v0 : Vis (defScope st) "self") (v1 : Vis (defScope st) y) (d0 : (y == ("__debug__" : Str)) = false) (d1 : (y == ("__classdict__" : Str)) = false)
    (hs1 : ∀ (cdv : Value) (A : Around) (outer : List Env) (s : Shared) (H : Hp) (E : XK), swapsWith (.Name y p3) (some (.Attribute (.Name "self" p1) ff p2)) q1.line (cxOf CX0 P w K mg base ["self", y] qual (defScope st) f cdv A outer s H E).nox.env = pure false)
    (hs2 : ∀ (cdv : Value) (A : Around) (outer : List Env) (s : Shared) (H : Hp) (E : XK), swapsWith (.Constant (.str cc) j p6) (some (.Attribute (.Name "self" p4) gg p5)) q2.line (cxOf CX0 P w K mg base ["self", y] qual (defScope st) f cdv A outer s H E).nox.env = pure false) :
    FnOk P w K mg base CX0 (k + 1) f fd ["self", y] (spE K C (fE2 ff gg cc)) := by
  refine F.ok S (fun vs H Q E h => ?_) (fun cdv A outer s H vs Q E hr h => ?_)
  · obtain ⟨a, G, vs', ds, out, rfl, _, hds, hf, _⟩ := h
    match ds, hf with
    | [x], _ => rw [List.length_cons, hds.length]; rfl
  · obtain ⟨a, G, vs', ds, out, rfl, ha, hds, hf, kk⟩ := h
    match ds, hf with
    | [x], hf =>
      cases hf
      obtain ⟨v, r, rfl, hv, hr⟩ := hds
      cases hr
      rw [hst]
      refine ⟨_, (pss_cons (ps_ostL (pv 0 rfl v0) (pv 1 rfl v1 d0 d1) (hs1 cdv A outer s H E)) (pss_one (ps_ostL (pv 0 rfl v0) pe_str (hs2 cdv A outer s H E)))), ?_⟩
      refine ⟨v, rfl, .ref a, rfl, a, C, rfl, T, n1, .inl ⟨ha, fun dx hn ne => ?_⟩⟩
      refine ⟨.ref a, rfl, a, C, rfl, T, n2, .inr ⟨dx, _, upd_same, by rw [upd_ne ne]; exact upd_same, by show 1 ≤ 900; decide, ?_⟩⟩
      refine kk dx [(gg, .str cc), (ff, v)] _ hn (by rw [upd_ne (Ne.symm ne)]; exact upd_same) upd_same (fun c h1 h2 => by rw [upd_ne h2, upd_ne h1, upd_ne h2]) fun f z hl => ?_
      by_cases e : (f == gg) = true
      · have e' : f = gg := by simpa using e
        subst e'
        simp at hl
        subst hl
        exact ⟨.str cc, by simp, rfl⟩
      · have e1 : (f == gg) = false := by simpa using e
        simp only [List.lookup, e1] at hl ⊢
        by_cases e2 : (f == ff) = true
        · rw [e2] at hl ⊢
          cases hl
          exact ⟨v, rfl, hv⟩
        · have e3 : (f == ff) = false := by simpa using e2
          rw [e3] at hl; cases hl
end
end DL
namespace DL
open PySem L2 PyProof.Rows PySem.Spec LamX
/-! ### x(lambda a=0: body): the parameter is not looked at -/
/-- captured names, globals, and the one parameter p0 -/
structure LamD (p0 : Str) (sc scope : Scope) : Prop where
  kind : scope.kind = .function
  co : scope.isCoroutine = false
  gen : scope.isGenerator = false
  own : ∀ y ∈ scope.names, (y.2 = .local → y.1 = p0) ∧ y.2 ≠ .cell
  free : ∀ y ∈ scope.names, y.2 = .free → sc.names.lookup y.1 = some .cell ∨ sc.names.lookup y.1 = some .free
  here : scope.names.lookup p0 = some .local
def lamDB (p0 : Str) (sc scope : Scope) : Bool :=
  decide (scope.kind = .function) && (!scope.isCoroutine && (!scope.isGenerator && (decide (scope.names.lookup p0 = some .local) &&
    scope.names.all fun y => (!decide (y.2 = .local) || decide (y.1 = p0)) && (!decide (y.2 = .cell) && (!decide (y.2 = .free) || (decide (sc.names.lookup y.1 = some .cell) || decide (sc.names.lookup y.1 = some .free)))))))
theorem lamD_by {p0 : Str} {sc scope : Scope} (h : lamDB p0 sc scope = true) : LamD p0 sc scope := by
  unfold lamDB at h
  simp only [Bool.and_eq_true, Bool.or_eq_true, Bool.not_eq_true', decide_eq_true_eq, decide_eq_false_iff_not, List.all_eq_true] at h
  obtain ⟨h1, h2, h3, h4, h5⟩ := h
  refine ⟨h1, h2, h3, fun y hy => ⟨fun z => ?_, (h5 y hy).2.1⟩, fun y hy z => ?_, h4⟩
  · rcases (h5 y hy).1 with w | w
    · exact absurd z w
    · exact w
  · rcases (h5 y hy).2.2 with w | w
    · exact absurd z w
    · exact w
section
variable {X : Cx} {pins : List (Addr × Obj)} {σ : L2.St} {H : Hp} {s : Shared}
theorem LamD.has {p0 : Str} {scope : Scope} (L : LamD p0 X.env.scope scope) (ok : X.Ok) (y : Str × NameKind) (hy : y ∈ scope.names) (z : y.2 = .free) : ∃ c, X.env.cells.lookup y.1 = some c :=
  ok.has _ ((L.free y hy z).elim (fun k => .inl k) fun k => .inr k)
abbrev lamO (X : Cx) (params : Arguments) (body : Expr) (scope : Scope) (T : Addr) (doc pm : Value) (cc : Addr) (ctv : Value) : Obj :=
  PySem.W.kdv_obj "<lambda>" (X.env.qual ++ "<lambda>") params (.expr body) scope (cloFrom X.env.cells scope.names []) (.ref T) doc pm cc ctv
theorem lam_atD {c P : Addr} {p0 : Str} {params : Arguments} {body : Expr} {scope : Scope} {pos : Pos} {n : Int} {j : Nat} {dp : Pos} {E : Value → Shared → Prop} {Q : Value → Shared → Prop} (I : Inv X pins σ H s) (TB : TabB X.base X.mg c P) (code : X.env.code = .ref c)
    (tab : TabS H P (X.env.qual ++ "<lambda>")) (hd : params.defaults = [.Constant (.int n) j dp]) (hk : params.kw_defaults = []) (L : LamD p0 X.env.scope scope)
    (k : ∀ (f cc T : Addr) (tn : Tok) (doc pm ctv : Value) (H1 : Hp) (s' : Shared), Inv X pins σ H1 s' → LamStep H H1 P (X.env.qual ++ "<lambda>") → s'.heap.get? f = some (lamO X params body scope T doc pm cc ctv) → s'.heap.get? T = some (PySem.W.kdv_tup [.int n tn]) →
      H1 f = none → H1 T = none → f ∉ frs X.stack → T ∉ frs X.stack → H1 cc = some (CodeO cc (X.env.qual ++ "<lambda>")) → Q (.ref f) s') :
    wpAny (model X.prog X.w) X.A (eval (.Lambda params body scope pos) X.env) Q E s := by
  refine PySem.W.kdv_lam (by rw [hd]; rfl) hk ?_
  rw [hd]
  refine PySem.W.kdv_all1 (wpAny_Constant_int (PySem.W.kdv_all0 ?_))
  rw [makeFunction_eq]
  simp only [List.zip_nil_right, List.filterMap_nil, List.isEmpty_nil, if_true, pure_bind, List.isEmpty_cons, Bool.false_eq_true, if_false]
  refine wpAny_bind (wpAny_newTextTuple ?_)
  have I1 : Inv X pins σ H { s with heap := s.heap.push (PySem.W.kdv_tup [.int n s.toks]), toks := s.toks + 1 } := I.kept fun b o e => Heap.get?_push_of_some _ e
  have atT : (s.heap.push (PySem.W.kdv_tup [.int n s.toks])).get? s.heap.objs.size = some (PySem.W.kdv_tup [.int n s.toks]) := Heap.get?_push_size _ rfl
  have nT : H s.heap.objs.size = none := I.hok.fresh (Nat.le_refl _)
  have apart : ∀ {b : Addr}, s.heap.objs.size ≤ b → b ∉ frs X.stack := fun {b} hb z => by
    rcases List.mem_cons.mp (I.stkSub b z) with e | e
    · have lt := I.lt
      rw [← e] at lt
      exact absurd (Nat.lt_of_lt_of_le lt hb) (Nat.lt_irrefl _)
    · exact I.nofs hb e
  have one : s.heap.objs.size ≤ (s.heap.push (PySem.W.kdv_tup [.int n s.toks])).objs.size := by rw [Heap.size_push]; omega
  obtain ⟨ps, hP, tri, among⟩ := tab
  have oldP : s.heap.get? P = some { cls := .none, data := .fields ps } := I.hok P _ hP
  have atP := Heap.get?_push_of_some (PySem.W.kdv_tup [.int n s.toks]) oldP
  have TP : s.heap.objs.size ≠ P := Nat.ne_of_gt (Heap.lt_size oldP)
  cases hit : codeAmong pos ps.toList with
  | some cv =>
    obtain ⟨cc, rfl, hcc⟩ := among pos cv hit
    refine PySem.W.kdv_makeTailHit (mg := X.mg) (c := c) (P := P) (ps := ps) (closure_ok (L.has I.ok)) I.ok.glob (I1.mod.glob.keeps I1.bk) code (TB.code.keeps I1.bk) atP tri hit (TB.bm.keeps I1.bk) fun ctv doc h' tk ext big => ?_
    exact k h'.objs.size cc s.heap.objs.size s.toks doc ((X.mg "__name__").getD .none) ctv H _ (I1.kept fun b o e => Heap.get?_push_of_some _ (ext b o e)) (.inl rfl) (Heap.get?_push_size _ rfl) (Heap.get?_push_of_some _ (ext _ _ atT)) (I1.hok.fresh big) nT (apart (Nat.le_trans one big)) (apart (Nat.le_refl _)) hcc
  | none =>
    refine PySem.W.kdv_makeTail (mg := X.mg) (c := c) (P := P) (ps := ps) (closure_ok (L.has I.ok)) I.ok.glob (I1.mod.glob.keeps I1.bk) code (TB.code.keeps I1.bk) atP tri hit TB.gP (TB.bm.keeps I1.bk) fun cc ctv doc h' tk ext big lt rec_ tab_ => ?_
    obtain ⟨_, oc, vs, t, e2, at2, dat, nam⟩ := rec_
    cases e2
    have sz : (s.heap.push (PySem.W.kdv_tup [.int n s.toks])).objs.size ≤ h'.objs.size := Nat.le_trans big (Nat.le_of_lt lt)
    have nC : H cc = none := I1.hok.fresh big
    have up : ∀ (z : Obj) b o, h'.get? b = some o → (h'.push z).get? b = some o := fun z b o e => Heap.get?_push_of_some _ e
    have J := inv_table (t' := tk) (more := #[rawInt pos.line, rawInt pos.col, .ref cc]) (h' := h'.push (lamO X params body scope s.heap.objs.size doc ((X.mg "__name__").getD .none) cc ctv)) I1 hP (fun b o hb e => up _ _ _ (ext b o hb e)) (up _ _ _ tab_) big ⟨oc, vs, t, up _ _ _ at2, dat, nam⟩
    have eL : (ps ++ #[rawInt pos.line, rawInt pos.col, .ref cc]).toList = ps.toList ++ [rawInt pos.line, rawInt pos.col, .ref cc] := by simp
    have big2 : (s.heap.push (PySem.W.kdv_tup [.int n s.toks])).objs.size ≤ cc := big
    have Tcc : s.heap.objs.size ≠ cc := Nat.ne_of_lt (Nat.lt_of_lt_of_le (by rw [Heap.size_push]; omega) big2)
    refine k h'.objs.size cc s.heap.objs.size s.toks doc ((X.mg "__name__").getD .none) ctv _ _ J (.inr ⟨ps, _, cc, hP, nC, rfl, by rw [eL]; exact PySem.TriplesOk_snoc _ _ _ _ tri, fun p' cv h => ?_⟩) (Heap.get?_push_size _ rfl) (up _ _ _ (ext _ _ TP atT)) ?_ ?_ (apart (Nat.le_trans one sz)) (apart (Nat.le_refl _)) upd_same
    · rw [eL] at h
      exact among_app _ tri h
    · rw [upd_ne (Nat.ne_of_gt lt), upd_ne (Nat.ne_of_gt (Nat.lt_of_lt_of_le (Heap.lt_size atP) sz))]
      exact I1.hok.fresh sz
    · rw [upd_ne Tcc, upd_ne TP]
      exact nT

theorem lam_startD {HZ : Hp} {s1 : Shared} {p0 : Str} {v0 : Value} {A : Around} {outer : List Env} {E : XK} {scope : Scope} {f cc : Addr} {h1 : Heap} {tk : Nat} (I : Inv X pins σ H s) (L : LamD p0 X.env.scope scope) (off : p0 ∉ X.N) (e0 : Env0 X.prog X.w X.K X.mg X.base A outer s1 HZ) (cool : A.handled = none)
    (un : Un (frs X.stack) [] H HZ s.heap s1.heap) (ns : h1.Ns s1.heap.objs.size fun y => [(p0, v0)].reverse.lookup y) (keep : ∀ b o, s1.heap.get? b = some o → h1.get? b = some o) :
    Inv (lamCx X A outer s1 HZ E scope f cc) [] σ HZ { s1 with heap := h1, toks := tk } := by
  have has := fun y hy z => L.has I.ok y hy z
  have toOuter : ∀ {y a}, (cloFrom X.env.cells scope.names []).lookup y = some a → X.env.cells.lookup y = some a := fun {y a} e => by
    rcases cloFrom_mem (PySem.mem_of_lookup e) with m | ⟨m1, m2⟩
    · cases m
    · obtain ⟨b, hb⟩ := has _ m1 rfl
      have hb : X.env.cells.lookup y = some b := hb
      have e2 : a = b := by rw [m2, hb] <;> rfl
      rw [e2]
      exact hb
  have toCell : ∀ {y}, scope.names.lookup y = some .free → ∃ a, (cloFrom X.env.cells scope.names []).lookup y = some a := fun {y} hl =>
    mem_lookup (cloFrom_has (cells := X.env.cells) (acc := []) (PySem.mem_of_lookup hl))
  have cells : ∀ {a : Addr} {v : Option Value}, H a = none → s.heap.IsCell a v → h1.IsCell a v := fun {a v} nn ⟨o, ho, hd⟩ => by
    obtain ⟨sl, q⟩ := un.any ho nn (by simp)
    exact ⟨_, keep _ _ q, hd⟩
  have noEx : ∀ b : Addr, b ∉ (lamCx X A outer s1 HZ E scope f cc).ex := fun b z => absurd (show b ∈ ([] : List Addr) from z) (by simp)
  refine ⟨⟨e0.mod, L.kind, rfl, rfl, Nat.le_refl _, fun y z a e1 e2 => I.ok.inj y z a (toOuter e1) (toOuter e2), fun y hy => ?_, fun y a z _ => ?_, fun _ => cool, Around.frames_deeper e0.frames, .inr ⟨rfl, rfl⟩, fun b z => absurd z (noEx b), e0.bs, e0.bsz, fun b _ _ => noEx b,
      fun b z => absurd z (noEx b), e0.funs, e0.frf⟩,
    rfl, e0.bare, Un.kept keep, ⟨_, ns, fun i y v e1 e2 e3 => ?_⟩, fun y a e => ?_, e0.hok.fresh (Nat.le_refl _), fun y a e => ?_, fun q hq => absurd (show q ∈ ([] : List (Addr × Obj)) ++ [] from hq) (by simp), e0.hok.kept keep, I.len⟩
  · have hy : scope.names.lookup y = some .cell ∨ scope.names.lookup y = some .free := hy
    rcases hy with hy | hy
    · exact absurd rfl (L.own _ (PySem.mem_of_lookup hy)).2
    · exact toCell hy
  · have z : false = true := z
    cases z
  · have e3 : Vis scope y := e3
    rcases e3 with z | z | z
    · have ey : y = p0 := (L.own _ (PySem.mem_of_lookup z)).1 rfl
      rw [ey] at e1
      exact absurd (List.mem_of_getElem? e1) off
    · exact absurd rfl (L.own _ (PySem.mem_of_lookup z)).2
    · obtain ⟨m, hn, hl⟩ := I.loc
      have vis : Vis X.env.scope y := (L.free _ (PySem.mem_of_lookup z) rfl).elim (fun k => .inr (.inl k)) (fun k => .inr (.inr k))
      obtain ⟨w', r, q⟩ := hl i y v e1 e2 vis
      obtain ⟨a2, h2⟩ := toCell z
      refine ⟨w', r, .inr ⟨.inr z, a2, h2, ?_⟩⟩
      have o2 := toOuter h2
      rcases q with ⟨k', _⟩ | ⟨_, a3, e', iz⟩
      · have k' : X.env.scope.names.lookup y = some .local := k'
        rcases L.free _ (PySem.mem_of_lookup z) rfl with k2 | k2 <;> rw [show X.env.scope.names.lookup y = _ from k2] at k' <;> cases k'
      · rw [o2] at e'
        cases e'
        exact cells (I.freeC y _ o2) iz
  · obtain ⟨w', z⟩ := I.cell y a (toOuter e)
    exact ⟨w', cells (I.freeC y a (toOuter e)) z⟩
  · obtain ⟨v, o, ho, hd⟩ := I.cell y a (toOuter e)
    exact un.free a o ho (I.freeC y a (toOuter e)) (by simp)
theorem pe_actD {CXg : CXT} {Eg : XK} {Ng : List Str} {qg : Str} {sg : Scope} {g f cc T : Addr} {tn : Tok} {n : Int} {p0 : Str} {cdg doc pm ctv : Value} {params : Arguments} {body : Expr} {scope : Scope} {k i : Nat} {a : Str} {pn : List (Addr × Obj)} {xe : Value → Shared → Prop} {W : WX} {E : XK} {tb : TE} {p1 p2 : Pos}
    (I : Inv X pins σ H s) (L : LamD p0 X.env.scope scope) (off : p0 ∉ X.N) (hf : s.heap.get? f = some (lamO X params body scope T doc pm cc ctv)) (hT : s.heap.get? T = some (PySem.W.kdv_tup [.int n tn])) (hfn : H f = none) (hTn : H T = none) (hfr : f ∉ frs X.stack) (hTr : T ∉ frs X.stack)
    (bind : ∀ (s : Shared) (u : Value), s.heap.get? T = some (PySem.W.kdv_tup [u]) → BindsTo s (PySem.W.kdv_fn "<lambda>" (X.env.qual ++ "<lambda>") params (.expr body) scope (cloFrom X.env.cells scope.names []) (.ref T) doc pm (.ref cc) ctv) ⟨[], []⟩ [(p0, u)])
    (tk : Takes ((cxOf CXg X.prog X.w X.K X.mg X.base Ng qg sg g cdg X.A X.stack s H Eg).tr pn xe) W) (hW : ∀ cls d σ' H', E cls d H' → W cls d σ' H') (hr : Room (k + 1) (X.A.deeper (envOfC qg sg s.heap.objs.size g cdg)))
    (hbody : ∀ (A : Around) (outer : List Env) (s : Shared) (H : Hp), Room k (A.deeper (lamEnv X scope s.heap.objs.size f cc)) → PE (lamCx X A outer s H E scope f cc) body tb)
    (hN : Ng[i]? = some a) (hv : Vis sg a) (hd : (a == ("__debug__" : Str)) = false := by decide) (hcd : (a == ("__classdict__" : Str)) = false := by decide) :
    PE ((cxOf CXg X.prog X.w X.K X.mg X.base Ng qg sg g cdg X.A X.stack s H Eg).tr pn xe) (.Call (.Name a p1) [] [] p2)
      (fun σZ HZ Q => σZ[i]? = some (some (.ref f)) ∧ HZ cc = some (CodeO cc (X.env.qual ++ "<lambda>")) ∧ tb σ HZ Q) := by
  refine ⟨fun pinsZ sZ σZ HZ Q IZ h => ?_⟩
  obtain ⟨hs, hc, ht⟩ := h
  refine wpAny_Call_Name_kw (thn ((pe_var (pos := p1) (i := i) hN hv hd hcd).run pinsZ sZ σZ HZ (fun v H1 => v = .ref f ∧ H1 = HZ) IZ ⟨.ref f, hs, rfl, rfl⟩) fun u s1 hh => ?_)
  obtain ⟨v, H1, I1, r1, rfl, eH⟩ := hh
  rw [eH] at I1
  cases r1
  have noE : ∀ b : Addr, b ∉ ([] : List Addr) := fun b z => nomatch z
  have of1 := I1.base.keep f _ hf hfn hfr (noE f)
  have oT1 := I1.base.keep T _ hT hTn hTr (noE T)
  refine PySem.W.callWith_F0 ⟨_, _, _, _, of1⟩ ?_
  have un : Un (frs X.stack) [] H HZ s.heap s1.heap := I1.base
  obtain ⟨⟨oc, vs, t, hoc, hdc, hvc⟩, _, _⟩ := I1.hok cc _ hc
  have rc : codeAny (model X.prog X.w) (X.A.deeper (envOfC qg sg s.heap.objs.size g cdg)) (.call (.ref f) ⟨[], []⟩) (CR (L2.CX X.prog X.w) (envOfC qg sg s.heap.objs.size g cdg :: X.stack) X.prog X.w HZ s1 Q E) s1 := by
    refine PySem.W.kla_callFunE hr.depth of1 rfl L.co L.gen rfl ⟨cc, oc, vs, t, rfl, hoc, hdc, hvc⟩ (bind s1 _ oT1 _ _ _ _ ?_)
    refine wpAny_newFunctionEnv (fun y hy => (L.own y hy).2) (fun y hy => ?_) (fun h1 ns same => ⟨I1.nolimit.fresh _ same, ?_⟩) L.kind
    · rw [List.mem_singleton.mp hy]
      exact L.here
    show codeAny _ _ (.expr body (lamEnv X scope s1.heap.objs.size f cc)) _ _
    have keep : ∀ b o, s1.heap.get? b = some o → h1.get? b = some o := fun b o e => same.extBut b o (Nat.ne_of_lt (Heap.lt_size e)) (Heap.get?_push_of_some _ e)
    have J : Inv (lamCx X (X.A.deeper (envOfC qg sg s.heap.objs.size g cdg)) (envOfC qg sg s.heap.objs.size g cdg :: X.stack) s1 HZ E scope f cc) [] σ HZ { s1 with heap := h1, toks := s1.toks + ([(p0, Value.int n tn)] : List (Str × Value)).length } :=
      lam_startD I L off I1.env0 hr.hd un ns keep
    refine PySem.W.kla_codeExpr (wpAny_mono ((hbody _ _ s1 HZ (hr.deeper _)).run [] _ _ HZ Q J ht) (fun v s' hq => ?_) fun e s' hq => hq)
    obtain ⟨w', H', J', rv, q⟩ := hq
    exact ⟨w', H', J'.os, J'.bare, J'.base, J'.hok, rv, q⟩
  have hx : Passes (L2.CX X.prog X.w) ((cxOf CXg X.prog X.w X.K X.mg X.base Ng qg sg g cdg X.A X.stack s H Eg).tr pn xe) E := passes_call tk hW
  refine wpAny_call (codeAny_mono rc fun r s' hq => ?_)
  cases r with
  | error e => exact hx pinsZ σZ HZ s1 e s' I1 hq
  | ok fl =>
    cases fl with
    | ret u => exact I1.after hq
    | next => exact hq.elim
    | brk => exact hq.elim
    | cont => exact hq.elim
end
section
variable {X : Cx}
theorem pe_lamD {p0 : Str} {n : Int} {jd : Nat} {dp : Pos} {TT : (XK → Hp → VK → Prop) → Hp → VK → Prop} {x a : Str} {g c P : Addr} {k : Nat} {pg : Arguments} {bg : List Stmt} {sg : Scope} {dV kV doc pm cdv ct oc : Value} {an od : Option Addr} {osl : Array (Option Value)} {Ng : List Str}
    {params : Arguments} {body : Expr} {scope : Scope} {t : XK → TE} {p lpos pos : Pos} (hg : Gl X x) (hm : X.mg x = some (.ref g)) (hk : PySem.W.keepIn X.K (.ref g) = true)
    (lk : X.K.lookup g = some ⟨oc, od, .func (PySem.W.fnOf x x pg bg sg dV kV doc pm an cdv ct), osl⟩) (hcg : PySem.W.codeIn X.K cdv x = true) (hb : L2.Binds X.K (PySem.W.fnOf x x pg bg sg dV kV doc pm an cdv ct) [a] []) (Sg : FnScope Ng [a] sg) (hNg : Ng[0]? = some a) (hva : Vis sg a)
    (hG : GivesTo X Ng x sg g cdv bg a (X.env.qual ++ "<lambda>") TT) (TB : TabB X.base X.mg c P) (hcode : X.env.code = .ref c) (hr : Room (k + 2) X.A) (L : LamD p0 X.env.scope scope) (off : p0 ∉ X.N) (hdf : params.defaults = [.Constant (.int n) jd dp]) (hkd : params.kw_defaults = [])
    (hbind : ∀ (q : Str) (cl : List (Str × Addr)) (T cc : Addr) (doc pm ctv : Value) (s : Shared) (u : Value), s.heap.get? T = some (PySem.W.kdv_tup [u]) → BindsTo s (PySem.W.kdv_fn "<lambda>" q params (.expr body) scope cl (.ref T) doc pm (.ref cc) ctv) ⟨[], []⟩ [(p0, u)])
    (hbody : ∀ (A : Around) (outer : List Env) (s : Shared) (H : Hp) (E : XK) (f c' : Addr), Room k (A.deeper (lamEnv X scope s.heap.objs.size f c')) → PE (lamCx X A outer s H E scope f c') body (t E))
    (hdb : (x == ("__debug__" : Str)) = false := by decide) (hd : (a == ("__debug__" : Str)) = false := by decide) (hcd : (a == ("__classdict__" : Str)) = false := by decide) :
    PE X (.Call (.Name x p) [.Lambda params body scope lpos] [] pos) (tLamS P (X.env.qual ++ "<lambda>") TT t) := by
  refine ⟨fun pins s σ H Q I h => wpAny_Call_Name_kw (ld_glob I hg hm ?_ hdb)⟩
  obtain ⟨hT, h⟩ := h
  have hT : TabS H P (X.env.qual ++ "<lambda>") := hT.resolve_right fun z => no_tm (I.hok P _ z)
  refine PySem.W.callWith_K (h₀ := X.base) I.ok.mod.kin hk ?_ (by rfl) (by rfl)
  show wpAny _ _ (spliced ((false, eval (.Lambda params body scope lpos) X.env) :: backTo pos (starEach [] X.env))) _ _ s
  refine Calls.spliced_cons (lam_atD I TB hcode hT hdf hkd L fun f c' T tn doc pm' ctv H1 s' I1 st hf hTt hfn hTn hfr hTr hco => Calls.spliced_nil ⟨I1.kIn, ?_⟩)
  have rc := run_ofS (CX := C8.CX0) (A := X.A) (outer := X.stack) (s := s') (H := H1) (args := ⟨[.ref f], []⟩) (Q := Q) (E := C8.E0) (N := Ng) (ps := [a]) (us := [.ref f]) (vs := [.ref f]) lk hcg Sg hr I1.env0 (hb s' [.ref f] I1.kIn rfl) (.cons rfl .nil) rfl fun hr' => by
    obtain ⟨t', ht', hq'⟩ := hG f c' s' H1 Q (fun E H' Q' => t E σ H' Q') (fun W pn xe E p1 p2 tk hW => pe_actD (i := 0) I1 L off hf hTt hfn hTn hfr hTr (fun s u e => hbind _ _ _ _ _ _ _ s u e) tk hW hr' (fun A outer s H hr2 => hbody A outer s H E f c' hr2) hNg hva hd hcd) hco (h H1 st)
    exact ⟨t', ht'.nox, hq'⟩
  refine wpAny_call (codeAny_mono rc fun r s2 hq => ?_)
  cases r with
  | error e => exact (show False from hq).elim
  | ok fl =>
    cases fl with
    | ret u => exact I1.after hq
    | next => exact False.elim hq
    | brk => exact False.elim hq
    | cont => exact False.elim hq
end
section
variable {X : Cx} {b : Bg} {K : PySem.W.Frag}
theorem d_triedD {p0 : Str} {dn : Int} {jd : Nat} {dp : Pos} {x a n x1 x2 fld : Str} {st : Stmt} {C1 C2 c P : Addr} {FF : FS} {k j j2 : Nat} {params : Arguments} {body : Expr} {scope : Scope} {u : (XD → Prop) → DE} {p lpos pos q1 q2 q3 q4 q5 q6 q7 q8 q9 q10 q11 q12 q13 q14 r6 r7 r8 r9 r10 r11 r12 r13 r14 q15 : Pos}
    (T : KnownT X.prog X.w X.K X.mg X.base x st a x1 x2 fld C1 C2 FF) (TB : TabB X.base X.mg c P) (hcode : X.env.code = .ref c) (hr : Room (k + 3) X.A)
    (hb : ∀ (xp : XD → Prop) (A : Around) (outer : List Env) (s : Shared) (H : Hp) (E : XK) (f c' : Addr), Room (k + 1) (A.deeper (lamEnv X scope s.heap.objs.size f c')) → L2.Takes (lamCx X A outer s H E scope f c') (bE b.a E xp).W → PD (lamCx X A outer s H E scope f c') (bE b.a E xp) body (u xp))
    (S : FnScope [a, n] [a] (defScope st))
    (hst : defBody st = [.Try [.Return (some (.Tuple [.Constant (.str "") j q1, .Call (.Name a q2) [] [] q3] j2 q4)) q5]
      [.ExceptHandler (some (.Name x1 q6)) (some n) [.Return (some (.Tuple [.Attribute (.Name n q7) "code" q8, .Call (.Name fld q9) [.Name n q10] [] q11] j2 q12)) q13] q14,
       .ExceptHandler (some (.Name x2 r6)) (some n) [.Return (some (.Tuple [.Attribute (.Name n r7) "code" r8, .Call (.Name fld r9) [.Name n r10] [] r11] j2 r12)) r13] r14] [] [] q15] := by rfl)
    (L : LamD p0 X.env.scope scope) (off : p0 ∉ X.N) (hpd : params.defaults = [.Constant (.int dn) jd dp] := by rfl) (hpk : params.kw_defaults = [] := by rfl)
    (hbind : ∀ (q : Str) (cl : List (Str × Addr)) (T cc : Addr) (doc pm ctv : Value) (s : Shared) (u : Value), s.heap.get? T = some (PySem.W.kdv_tup [u]) → BindsTo s (PySem.W.kdv_fn "<lambda>" q params (.expr body) scope cl (.ref T) doc pm (.ref cc) ctv) ⟨[], []⟩ [(p0, u)] := by intro _ _ _ _ _ _ _ _ _ h; exact BindsTo.of_defaults rfl h rfl rfl rfl)
    (hln : (defScope st).names.lookup n = some .local := by decide +kernel) (hva : Vis (defScope st) a := by exact Or.inl (by decide +kernel)) (hc1 : (defScope st).names.lookup x1 = some .globalImplicit := by decide +kernel) (hc2 : (defScope st).names.lookup x2 = some .globalImplicit := by decide +kernel) (hcf : (defScope st).names.lookup fld = some .globalImplicit := by decide +kernel)
    (hg : Gl X x := by rfl) (hdb : (x == ("__debug__" : Str)) = false := by decide) (hd : (a == ("__debug__" : Str)) = false := by decide) (hcd : (a == ("__classdict__" : Str)) = false := by decide)
    (hd1 : (x1 == ("__debug__" : Str)) = false := by decide) (hd2 : (x2 == ("__debug__" : Str)) = false := by decide) (hdf : (fld == ("__debug__" : Str)) = false := by decide) (hdn : (n == ("__debug__" : Str)) = false := by decide) (hdn2 : (n == ("__classdict__" : Str)) = false := by decide) (hab : ∀ (p : Pos) (env : Env) (ev : Sem Value), attributeBase (.Name n p) "code" env ev = ev := by intro _ _ _; rfl) :
    PD X b (.Call (.Name x p) [.Lambda params body scope lpos] [] pos) (uTried X.K P (X.env.qual ++ "<lambda>") C1 C2 FF u) := by
  obtain ⟨⟨g, fd, F, hm, hbi⟩, m1, m2, pf, KF⟩ := T
  obtain ⟨oc, od, kV, doc, pm, an, cdv, ct, osl, rfl, lk, hcg⟩ := F.ex
  have qb : ∀ (xp : XD → Prop) (A : Around) (outer : List Env) (s : Shared) (H : Hp) (E : XK) (f c' : Addr), Room (k + 1) (A.deeper (lamEnv X scope s.heap.objs.size f c')) → ∃ t, PE (lamCx X A outer s H E scope f c') body t ∧ LE X.K (bE b.a E xp) t (u xp) :=
    fun xp A outer s H E f c' h => (hb xp A outer s H E f c' h (takes_of rfl rfl rfl rfl)).ex
  have G := tried_gives (X := X) (x := x) (a := a) (q := X.env.qual ++ "<lambda>") (g := g) (cdg := cdv) (j := j) (j2 := j2) (q1 := q1) (q2 := q2) (q3 := q3) (q4 := q4) (q5 := q5) (q6 := q6) (q7 := q7) (q8 := q8) (q9 := q9) (q10 := q10) (q11 := q11) (q12 := q12) (q13 := q13) (q14 := q14) (r6 := r6) (r7 := r7) (r8 := r8) (r9 := r9) (r10 := r10) (r11 := r11) (r12 := r12) (r13 := r13) (r14 := r14) (q15 := q15)
    rfl S.nd hln hc1 hc2 hcf hd1 hd2 hdf hdn hdn2 hab m1 m2 KF fun s => by
      have z : Room 2 (X.A.deeper (envOfC x (defScope st) s.heap.objs.size g cdv)) := ((hr.mono (by omega : 3 ≤ k + 3)).deeper _)
      exact ⟨rfl, z.dp, z.un⟩
  rw [← hst] at G
  refine ⟨_, pe_lamD (t := fun E σ Hz Q => ∃ xp, ∀ (A : Around) (outer : List Env) (s : Shared) (H : Hp) (f c' : Addr) (h : Room (k + 1) (A.deeper (lamEnv X scope s.heap.objs.size f c'))), (qb xp A outer s H E f c' h).choose σ Hz Q) hg hm F.kp lk hcg hbi S rfl hva G TB hcode hr L off hpd hpk hbind
    (fun A outer s H E f c' h => ⟨fun pins s' σ Hz Q I ⟨xp, hh⟩ => (qb xp A outer s H E f c' h).choose_spec.1.run pins s' σ Hz Q I (hh A outer s H f c' h)⟩) hdb hd hcd, ?_⟩
  intro Lk G0 H0 Gx Hx σ e Pp Q gd hu kk
  obtain ⟨hT, hu⟩ := hu
  obtain ⟨v0, _, _, hGP⟩ := gd.slot 0 _ (nth_get hT (by simp))
  refine ⟨?_, fun H1 hs => ?_⟩
  · rcases gd.ex P _ hGP with z | ⟨_, _, z, _⟩ | ⟨q', ps, z, z2, z3⟩
    · exact .inr z
    · cases z
    · refine .inl ⟨ps, z2, z3.1, fun pos cv hc => ?_⟩
      obtain ⟨c', e1, e2⟩ := z3.2 pos cv hc
      rw [tm_inj z]
      refine ⟨c', e1, ?_⟩
      rcases gd.ex c' _ e2 with y | ⟨_, _, y, _⟩ | ⟨_, _, y, _⟩
      · exact y
      · cases y
      · cases y
  obtain ⟨G1, s1⟩ := lam_stp (b := b.a) gd.ex hGP hs
  have g1 := gd.step s1
  refine ⟨xpT X.K C1 C2 FF Pp, fun A outer s H f c' h => ?_⟩
  refine (qb _ A outer s H _ f c' h).choose_spec.2 [] G1 H1 G1 H1 σ (e.map hideO) _ _ (good_hide g1 fun y cls d G' H' st hy hp => ?_) hu fun v r G' H' st hr hp => ?_
  · obtain ⟨⟨ca, xf, fc⟩, nd, d1, l1, hF⟩ := hp
    obtain ⟨rfl, dd, fs, rfl, h1, h2, h3⟩ := hy
    refine ⟨ca, y.1, dd, rfl, rfl, fun a' na => ?_⟩
    have s2 : Stp b.a [] G' H' (L2.upd G' a' (XO y.1 dd a')) (L2.upd H' a' (XO y.1 dd a')) := exc_stp st.ex na
    have ndd : dd ≠ a' := ne_of_none h1 na
    obtain ⟨v, q1, q2⟩ := h3 _ _ l1
    refine ⟨y.1, dd, fs, v, upd_same, by rw [upd_ne ndd]; exact h1, xf, fc, q1, _, [.exc y.1 y.2], _, s2.ex, ⟨.ref a', [], rfl, ⟨a', dd, fs, rfl, upd_same, by rw [upd_ne ndd]; exact h2, (repE_of nd h3).mono s2.g⟩, rfl⟩, hF, fun w r G2 H2 s3 hr hp => ?_⟩
    obtain ⟨y2, G3, s4, hrep, py⟩ := hr.freeze s3 hp
    intro p np
    have s5 := Stp.laid (b := b.a) (o := .tup [v, w]) s4.ex np
    exact kk (.ref p) (.sh (.tup [d1, y2])) _ _ (((s1.trans st).trans s2).trans (s4.some.trans s5)) ⟨p, _, rfl, .inl upd_same, v, _, rfl, ((q2.mono s2.g).mono s4.g).mono s5.g, w, [], rfl, hrep.mono s5.g, rfl⟩ py
  · obtain ⟨d, G3, s4, hrep, pd⟩ := hr.freeze st hp
    refine ⟨by show 2 ≤ sizeLine; rw [sizeLine_eq]; decide, fun p np => ?_⟩
    have s5 := Stp.laid (b := b.a) (o := .tup [.str "", v]) s4.ex np
    exact kk (.ref p) (.sh (.tup [.str "", d])) _ _ ((s1.trans s4).trans s5) ⟨p, _, rfl, .inl upd_same, .str "", _, rfl, rfl, v, [], rfl, hrep.mono s5.g, rfl⟩ pd
end
end DL
namespace DL
open PySem L2 PyProof.Rows
/-! ### [..] * n; defs with *args that raise; f(*xs) -/
def fRepL (d1 d2 : D) (P : R → Prop) : Prop := ∃ (xs : List D) (n : Nat), d1 = .lst xs ∧ d2 = .int (n : Int) ∧ n ≤ 1000 ∧ xs.length * n ≤ 1000000 ∧ P (.ow (.lst (List.replicate n xs).flatten))
section
variable {X : Cx} {b : Bg} {K : PySem.W.Frag}
theorem repL_rep {G : Hp} {xs : List D} {vs : List V} (h : RepL K G xs vs) : ∀ n : Nat, RepL K G (List.replicate n xs).flatten (List.replicate n vs).flatten
  | 0 => rfl
  | n + 1 => by
    rw [List.replicate_succ, List.replicate_succ, List.flatten_cons, List.flatten_cons]
    exact h.append (repL_rep h n)
theorem lo_repL : LO K rRep fRepL := by
  rintro b L G0 H0 G H σ e d1 d2 x y P Q g h1 h2 ⟨xs, n, rfl, rfl, hn, hl, p⟩ k
  obtain ⟨a, vs, rfl, ha, hr⟩ := h1
  cases h2
  refine ⟨a, n, vs, rfl, rfl, ha, by omega, by omega, ?_, ?_⟩
  · rw [Int.toNat_natCast, hr.length]
    exact le_line hl
  · rw [Int.toNat_natCast]
    exact g.newL (repL_rep hr n) p k
theorem d_repL {a c : Expr} {u1 u2 : DE} {pos : Pos} (h1 : PD X b a u1) (h2 : PD X b c u2) : PD X b (.BinOp a .Mult c pos) (uBin fRepL u1 u2) := d_bin op_rep lo_repL h1 h2
end
structure KnownRX (P : Program) (w : World) (K : PySem.W.Frag) (mg : Str → Option Value) (base : Heap) (x : Str) (k : Nat) (sp : Sp) : Prop where
  ex : ∃ f, FnR P w K mg base (L2.CX P w) k f sp ∧ mg x = some (.ref f) ∧ PySem.W.keepIn K (.ref f) = true
def fStarX (n : Nat) (f : FSX) : FSX := fun ds P XP => ∃ d1 d2, ds = d1 ++ d2 ∧ d1.length = n ∧ d2.length ≤ 1000000 ∧ f (d1 ++ [.tup d2]) P XP
section
variable {X : Cx} {b : Bg}
theorem d_callRX {x : Str} {k : Nat} {f : FSX} {a : Expr} {es : List Expr} {ua : DA} {p pos : Pos} (tk : L2.Takes X b.W) (F : KnownRX X.prog X.w X.K X.mg X.base x k (spX X.K f)) (hr : Room k X.A) (ha : PDA X b (a :: es) ua) (hg : Gl X x := by rfl)
    (hdb : (x == ("__debug__" : Str)) = false := by decide) (he : starEach (a :: es) X.env = (false, eval a X.env) :: starEach es X.env := by rfl) (hpl : (backTo pos (starEach es X.env)).any (·.1) = false := by rfl) : PD X b (.Call (.Name x p) (a :: es) [] pos) (uCallX f b.xp ua) := by
  obtain ⟨fa, F, hm, hk⟩ := F
  obtain ⟨t, pa, l⟩ := ha
  refine ⟨_, pe_callR F hr hk hg hm (E := fun cls d H => ∀ σ, b.W cls d σ H) (passes_call tk fun _ _ σ _ h => h σ) pa hdb he hpl, ?_⟩
  intro L G0 H0 G H σ e P Q g hu kk
  refine l L G0 H0 G H σ e _ _ g hu fun vs ds G1 H1 s1 hds q => ?_
  have g1 := g.step s1
  exact ⟨G1, ds, P, b.xp, g1.ex, hds, q, fun v r G' H' s hr hp => kk v r G' H' (s1.trans s.some) (ret_n g1 s1 hr) hp, fun y cls d G' H' s hy h σ' => g1.out s hy h σ'⟩
theorem d_callRXq {x : Str} {k : Nat} {f : FSX} {a : Expr} {es : List Expr} {ua : DA} {p pos : Pos} (F : KnownRX X.prog X.w X.K X.mg X.base x k (spX X.K f)) (hr : Room k X.A) (ha : PDA X b (a :: es) ua) (hg : Gl X x := by rfl)
    (hdb : (x == ("__debug__" : Str)) = false := by decide) (he : starEach (a :: es) X.env = (false, eval a X.env) :: starEach es X.env := by rfl) (hpl : (backTo pos (starEach es X.env)).any (·.1) = false := by rfl) : PD X b (.Call (.Name x p) (a :: es) [] pos) (uCallX f (fun _ => False) ua) := by
  obtain ⟨fa, F, hm, hk⟩ := F
  obtain ⟨t, pa, l⟩ := ha
  refine ⟨_, pe_callR F hr hk hg hm (E := E0) passL pa hdb he hpl, ?_⟩
  intro L G0 H0 G H σ e P Q g hu kk
  refine l L G0 H0 G H σ e _ _ g hu fun vs ds G1 H1 s1 hds q => ?_
  have g1 := g.step s1
  exact ⟨G1, ds, P, fun _ => False, g1.ex, hds, q, fun v r G' H' s hr hp => kk v r G' H' (s1.trans s.some) (ret_n g1 s1 hr) hp, fun y cls d G' H' s hy h => h.elim⟩
/-- f(*xs) of a def without raising -/
def asLT2 (P : List D → Prop) : D → Prop
  | .lst xs => P xs
  | .tup xs => P xs
  | _ => False
def uCallS (f : FS) (u : DE) : DE := fun e P => u e (R.keep (asLT2 fun xs => f xs P))
theorem d_callS {x : Str} {k : Nat} {f : FS} {a : Expr} {u : DE} {p sp_ pos : Pos} (F : KnownR X.prog X.w X.K X.mg X.base x k (spN X.K f)) (hr : Room k X.A) (h : PD X b a u) (hg : Gl X x := by rfl) (hdb : (x == ("__debug__" : Str)) = false := by decide)
    (hst : starEach [.Starred a sp_] X.env = [(true, eval a X.env)] := by rfl) : PD X b (.Call (.Name x p) [.Starred a sp_] [] pos) (uCallS f u) := by
  obtain ⟨fa, F, hm, hk⟩ := F
  obtain ⟨t, pa, l⟩ := h
  refine ⟨_, StX.pe_callS1 F hr hk hg hm (E := E0) pass0 pa hdb hst, ?_⟩
  intro L G0 H0 G H σ e P Q g hu kk
  refine l L G0 H0 G H σ e _ _ g hu fun v r G1 H1 s1 hr1 q => ?_
  obtain ⟨d, G2, s2, hd, q⟩ := hr1.freeze s1 q
  have g2 := g.step s2
  have fin : ∀ (vs : List V) (xs : List D), RepL X.K G2 xs vs → f xs P → spN X.K f vs H1 Q E0 := fun vs xs hr q => ⟨G2, xs, P, g2.ex, hr, q, fun v r G' H' s hr hp => kk v r G' H' (s2.trans s.some) (ret_n g2 s2 hr) hp⟩
  cases d with
  | lst xs =>
    obtain ⟨a, vs, rfl, ha, hr⟩ := hd.top g2.ex
    exact ⟨a, vs, rfl, .inr (SqL.of ha), fin vs xs hr q⟩
  | tup xs =>
    obtain ⟨a, vs, rfl, ha, hr⟩ := hd.top g2.ex
    exact ⟨a, vs, rfl, .inl ha, fin vs xs hr q⟩
  | _ => exact q.elim
end
section
variable {K : PySem.W.Frag} {P : Program} {w : World} {mg : Str → Option Value} {base : Heap}
theorem fn_starX {x qual pv : Str} {st : Stmt} {f : Addr} {fd : FuncData} {N ps : List Str} {k : Nat} {fs : FSX} {u : (XD → Prop) → DS} (F : Fun K x qual st f fd) (hm : mg x = some (.ref f)) (S : FnScope N (ps ++ [pv]) (defScope st))
    (hbi : ∀ (kV doc pm : Value) (an : Option Addr) (cdv ct : Value) (us rest : List Value), us.length = ps.length → bindArgs (PySem.W.fnOf x qual (defArgs st) (defBody st) (defScope st) .none kV doc pm an cdv ct) ⟨us ++ rest, []⟩ = (newTuple rest >>= fun t => pure (ps.zip us ++ [(pv, t)])))
    (hb : ∀ (xp : XD → Prop) (cdv : Value) (A : Around) (outer : List Env) (s : Shared) (H : Hp) (E : XK), Room k (A.deeper (envOfC qual (defScope st) s.heap.objs.size f cdv)) → L2.Takes (cxOf (L2.CX P w) P w K mg base N qual (defScope st) f cdv A outer s H E) (bE none E xp).W → PassesOwn (model P w) (cxOf (L2.CX P w) P w K mg base N qual (defScope st) f cdv A outer s H E).A (cxOf (L2.CX P w) P w K mg base N qual (defScope st) f cdv A outer s H E).env (cxOf (L2.CX P w) P w K mg base N qual (defScope st) f cdv A outer s H E).xe → PDSs (cxOf (L2.CX P w) P w K mg base N qual (defScope st) f cdv A outer s H E) (bE none E xp) (defBody st) (u xp))
    (hu : ∀ ds P XP, fs ds P XP → u XP ⟨fun _ => P (.sh .non), fun r _ => P r, fun _ => False, fun _ => False⟩ (env0 N ds)) : KnownRX P w K mg base x (k + 1) (spX K (fStarX ps.length fs)) := by
  obtain ⟨oc, od, kV, doc, pm, an, cdv, ct, osl, rfl, lk, hcd⟩ := F.ex
  refine ⟨f, FnR.imp (StX.fn_star (sp := spX K fs) lk hcd S StX.cxUp (hbi kV doc pm an cdv ct) fun A outer s H vs Q E hr hsp => ?_) fun vs H Q E h => ?_, hm, F.kp⟩
  · obtain ⟨G, ds, P', XP, ex, hds, hf, kk, kx⟩ := hsp
    obtain ⟨t, p, l⟩ := hb XP cdv A outer s H E hr (takes_of rfl rfl rfl rfl) (passes_of rfl)
    have g0 := good0 (N := N) ex hds
    refine ⟨t, p, l [] G H G H _ _ ⟨fun _ => P' (.sh .non), fun r _ => P' r, fun _ => False, fun _ => False⟩ _ ⟨g0.toGood0, fun h => (h rfl).elim, fun _ x cls d σ G' H' st hx h => kx x cls d G' H' st hx h⟩ ⟨fun G' H' σ e g h => ?_, fun G' H' σ e v r g hr h => ?_, fun G' H' σ e g h => h.elim, fun G' H' σ e g h => h.elim⟩ (hu ds P' XP hf)⟩
    · exact kk .non (.sh .non) G' H' g.stp rfl h
    · exact kk v r G' H' g.stp hr h
  · obtain ⟨G, ds, P', XP, ex, hds, ⟨d1, d2, rfl, h1, h2, hf⟩, kk, kx⟩ := h
    obtain ⟨v1, v2, rfl, r1, r2⟩ := repL_split hds
    refine ⟨v1, v2, rfl, by rw [r1.length]; exact h1, by rw [r2.length]; exact le_line h2, fun p np => ?_⟩
    have sb := sub_upd (o := .tup v2) (ex.none np)
    refine ⟨_, d1 ++ [.tup d2], P', XP, (Stp.laid (b := none) ex np).ex, (r1.mono sb).append (show RepL K _ [.tup d2] [.ref p] from ⟨_, _, rfl, (show Rep K _ (.tup d2) (.ref p) from ⟨p, v2, rfl, .inl upd_same, r2.mono sb⟩), rfl⟩), hf, fun v r G' H' s hr hp => kk v r G' H' ((Stp.laid ex np).trans s) (hr.back fun a hb z => (Stp.laid (b := none) ex np).back a hb z) hp, fun x cls d G' H' s hx hp => kx x cls d G' H' ((Stp.laid ex np).trans s) hx hp⟩
end
theorem e_aslt21 {xs : List D} {P : List D → Prop} : asLT2 P (.lst xs) = P xs := rfl
theorem e_aslt22 {xs : List D} {P : List D → Prop} : asLT2 P (.tup xs) = P xs := rfl
end DL
namespace Tm
open PySem L2 DL PyProof.Rows LamX
local macro_rules | `(tactic| walk_at "dl") => `(tactic| try dsimp only [DL.uRaise, DL.uMethX, DL.uMakeX, DL.uCallS, DL.e_aslt21, DL.e_aslt22, DL.uEnumS, DL.e_asSE, DL.uCallX, DL.uXf, DL.uTried, DL.e_hm0, DL.e_hm1, DL.e_hsh, DL.e_hun, DL.e_hown, DL.e_hbag, DL.uFldC, DL.uMakeV, DL.uMake, DL.uCMeth, DL.uKdS, DL.uKdT, DL.uSeq, DL.uIf, DL.uSet, DL.uOwn, DL.uX, DL.uBin, DL.uVar, DL.uC, DL.uTest, DL.uAnd, DL.uOr, DL.uNot, DL.uAndV, DL.uOrV, DL.uNotV, DL.uIfE, DL.uTru, DL.uCons, DL.uNil, DL.uLst, DL.uTup, DL.uNo, DL.uPart, DL.uSl, DL.uB, DL.uM1, DL.uCall, DL.uCallB, DL.uNext, DL.uRet, DL.uRetN, DL.uDrop, DL.uBrk, DL.uCnt, DL.uApp, DL.uPop, DL.uPopAt, DL.uSetIx, DL.uPar, DL.uFrz, DL.uFor, DL.uItL, DL.uItT, DL.uItS, DL.uR1, DL.uR2, DL.uEnum, DL.uZip, DL.gNm, DL.uAsg, DL.uWhile, DL.uLc, DL.uYes, DL.wipeE, DL.env0, DL.envB, DL.uRev, DL.uNeg, DL.uIsi, DL.uIsi2, DL.uCut, DL.uNever, DL.e_nth0, DL.e_nth1, DL.e_nth2, DL.e_nth3, DL.e_nth4, DL.e_nth5, DL.e_nth6, DL.e_nth7, DL.e_nth8, DL.e_nth9, DL.e_nth10, DL.e_nth11, DL.e_nth12, DL.e_nth13, DL.e_nth14, DL.e_nth15, DL.e_nth16, DL.e_nth17, DL.e_nth18, DL.e_nth19, DL.e_nth20, DL.e_nth21, DL.e_nth22, DL.e_nth23, DL.e_nth24, DL.e_nth25, DL.e_set0, DL.e_set1, DL.e_set2, DL.e_set3, DL.e_set4, DL.e_set5, DL.e_set6, DL.e_set7, DL.e_set8, DL.e_set9, DL.e_set10, DL.e_set11, DL.e_set12, DL.e_set13, DL.e_set14, DL.e_set15, DL.e_set16, DL.e_set17, DL.e_set18, DL.e_set19, DL.e_set20, DL.e_set21, DL.e_set22, DL.e_set23, DL.e_set24, DL.e_set25, DL.e_look1, DL.e_look2, DL.e_look3, DL.e_keep1, DL.e_keep2, DL.e_ret1, DL.e_ret2, DL.e_ret3, DL.e_od1, DL.e_od2, DL.e_od3, DL.e_asB, DL.e_asL, DL.e_asT, DL.e_asS, DL.e_asI, DL.e_add1, DL.e_add2, DL.e_add3, DL.e_add4, DL.e_fSub, DL.e_fAnd, DL.e_fXor, DL.e_fMul, DL.e_fMod, DL.e_fDiv, DL.e_fPow, DL.e_fLt, DL.e_fLe, DL.e_fLeI, DL.e_fGt, DL.e_fGe, DL.e_ltS, DL.e_eq_int, DL.e_ne_int, DL.e_eq_str, DL.e_ne_str, DL.e_eq_bl, DL.e_ne_bl, DL.e_eqx91, DL.e_nex92, DL.e_eqx93, DL.e_nex94, DL.e_eqx95, DL.e_nex96, DL.e_eqx97, DL.e_nex98, DL.e_eqx99, DL.e_nex100, DL.e_is, DL.e_isnot, DL.e_isn0, DL.e_isn1, DL.e_isn2, DL.e_isn3, DL.e_isn4, DL.e_isn5, DL.e_isn6, DL.e_isn7, DL.e_isn8, DL.e_fIn1, DL.e_fIn2, DL.e_fIn3, DL.e_fNotIn1, DL.e_fNotIn2, DL.e_fNotIn3, DL.e_sl1, DL.e_sl2, DL.e_sl3, DL.e_len1, DL.e_len2, DL.e_len3, DL.e_int1, DL.e_int2, DL.e_list1, DL.e_list2, DL.e_list3, DL.e_tru1, DL.e_tru2, DL.e_tru3, DL.e_tru4, DL.e_tru5, DL.e_tru6, DL.e_ix_lst0, DL.e_ix_tup0, DL.e_ix_lst1, DL.e_ix_tup1, DL.e_ix_lst2, DL.e_ix_tup2, DL.e_ix_lst3, DL.e_ix_tup3, DL.e_ix_lst4, DL.e_ix_tup4, DL.e_ix_lst5, DL.e_ix_tup5, DL.e_ix_lst6, DL.e_ix_tup6, DL.e_ix_lst7, DL.e_ix_tup7, DL.e_gtp, DL.e_gsc, DL.e_gsn, DL.e_into1, DL.e_into2, DL.e_into3, DL.e_ty0, DL.e_ty1, DL.e_ty2, DL.e_ty3, DL.e_ty4, DL.e_ty5, DL.e_ty6, DL.e_tyis_non_non, DL.e_tyis_non_bl, DL.e_tyis_non_int, DL.e_tyis_non_str, DL.e_tyis_non_lst, DL.e_tyis_non_tup, DL.e_tyis_non_dk, DL.e_tyis_bl_non, DL.e_tyis_bl_bl, DL.e_tyis_bl_int, DL.e_tyis_bl_str, DL.e_tyis_bl_lst, DL.e_tyis_bl_tup, DL.e_tyis_bl_dk, DL.e_tyis_int_non, DL.e_tyis_int_bl, DL.e_tyis_int_int, DL.e_tyis_int_str, DL.e_tyis_int_lst, DL.e_tyis_int_tup, DL.e_tyis_int_dk, DL.e_tyis_str_non, DL.e_tyis_str_bl, DL.e_tyis_str_int, DL.e_tyis_str_str, DL.e_tyis_str_lst, DL.e_tyis_str_tup, DL.e_tyis_str_dk, DL.e_tyis_lst_non, DL.e_tyis_lst_bl, DL.e_tyis_lst_int, DL.e_tyis_lst_str, DL.e_tyis_lst_lst, DL.e_tyis_lst_tup, DL.e_tyis_lst_dk, DL.e_tyis_tup_non, DL.e_tyis_tup_bl, DL.e_tyis_tup_int, DL.e_tyis_tup_str, DL.e_tyis_tup_lst, DL.e_tyis_tup_tup, DL.e_tyis_tup_dk, DL.e_tyis_dk_non, DL.e_tyis_dk_bl, DL.e_tyis_dk_int, DL.e_tyis_dk_str, DL.e_tyis_dk_lst, DL.e_tyis_dk_tup, DL.e_tyis_dk_dk, DL.e_orF, DL.e_zip1, DL.e_zip2, DL.e_slv1, DL.e_slv2, DL.e_itet, DL.e_itef, DL.e_dtt, DL.e_dff, DL.e_dtf, DL.e_dft, DL.e_nt, DL.e_nf, DL.e_off, DL.e_oft, DL.e_otf, DL.e_ott, List.map, List.replicate, List.length, List.append, List.tail, List.cons_append, List.nil_append, List.append_nil, List.length_cons, List.length_nil, Nat.reduceAdd, Nat.reduceSub, DL.e_gtpl, DL.uRevS, DL.uItQ, DL.e_asQ1, DL.e_asQ2, DL.e_asQ3, DL.e_at1, DL.e_at2, DL.e_at3, DL.e_in1, DL.e_in2, DL.e_in3, DL.e_nin1, DL.e_nin2, DL.e_nin3, DL.uML, DL.uFld, DL.uMeth, DL.uMake, DL.uPutF, DL.uPut, DL.uGet2, DL.uItK, DL.vVar, DL.uCallO, DL.uDict0, DL.uDc, DL.uItW, DL.vAt, DL.vFld, DL.u2B, DL.uChn, DL.e_lenU1, DL.e_lenU2, DL.e_lenU3, DL.e_lenU4, DL.e_listU1, DL.e_listU2, DL.e_listU3, DL.e_listU4, DL.uPar3, DL.uCallP, DL.uCallBP, DL.uCallK, DL.e_kput1, DL.e_into4, DL.e_into5, DL.uLend, DL.e_kput2, DL.uEnumQ, DL.e_aslt1, DL.e_aslt2])
local macro_rules | `(tactic| walk_at "dm") => `(tactic| try dsimp only [DL.uRaise, DL.uMethX, DL.uMakeX, DL.uCallS, DL.e_aslt21, DL.e_aslt22, DL.uEnumS, DL.e_asSE, DL.uCallX, DL.uXf, DL.uTried, DL.e_hm0, DL.e_hm1, DL.e_hsh, DL.e_hun, DL.e_hown, DL.e_hbag, DL.uFldC, DL.uMakeV, DL.uMake, DL.uCMeth, DL.uKdS, DL.uKdT, DL.uSeq, DL.uIf, DL.uSet, DL.uOwn, DL.uX, DL.uBin, DL.uVar, DL.uC, DL.uTest, DL.uAnd, DL.uOr, DL.uNot, DL.uAndV, DL.uOrV, DL.uNotV, DL.uIfE, DL.uTru, DL.uCons, DL.uNil, DL.uLst, DL.uTup, DL.uNo, DL.uPart, DL.uSl, DL.uB, DL.uM1, DL.uCall, DL.uCallB, DL.uNext, DL.uRet, DL.uRetN, DL.uDrop, DL.uBrk, DL.uCnt, DL.uApp, DL.uPop, DL.uPopAt, DL.uSetIx, DL.uPar, DL.uFrz, DL.uItL, DL.uItT, DL.uItS, DL.uR1, DL.uR2, DL.uEnum, DL.uZip, DL.gNm, DL.uAsg, DL.uWhile, DL.uYes, DL.wipeE, DL.env0, DL.envB, DL.uRev, DL.uNeg, DL.uIsi, DL.uIsi2, DL.uCut, DL.uNever, DL.e_nth0, DL.e_nth1, DL.e_nth2, DL.e_nth3, DL.e_nth4, DL.e_nth5, DL.e_nth6, DL.e_nth7, DL.e_nth8, DL.e_nth9, DL.e_nth10, DL.e_nth11, DL.e_nth12, DL.e_nth13, DL.e_nth14, DL.e_nth15, DL.e_nth16, DL.e_nth17, DL.e_nth18, DL.e_nth19, DL.e_nth20, DL.e_nth21, DL.e_nth22, DL.e_nth23, DL.e_nth24, DL.e_nth25, DL.e_set0, DL.e_set1, DL.e_set2, DL.e_set3, DL.e_set4, DL.e_set5, DL.e_set6, DL.e_set7, DL.e_set8, DL.e_set9, DL.e_set10, DL.e_set11, DL.e_set12, DL.e_set13, DL.e_set14, DL.e_set15, DL.e_set16, DL.e_set17, DL.e_set18, DL.e_set19, DL.e_set20, DL.e_set21, DL.e_set22, DL.e_set23, DL.e_set24, DL.e_set25, DL.e_look1, DL.e_look2, DL.e_look3, DL.e_keep1, DL.e_keep2, DL.e_ret1, DL.e_ret2, DL.e_ret3, DL.e_od1, DL.e_od2, DL.e_od3, DL.e_asB, DL.e_asL, DL.e_asT, DL.e_asS, DL.e_asI, DL.e_add1, DL.e_add2, DL.e_add3, DL.e_add4, DL.e_fSub, DL.e_fAnd, DL.e_fXor, DL.e_fMul, DL.e_fMod, DL.e_fDiv, DL.e_fPow, DL.e_fLt, DL.e_fLe, DL.e_fLeI, DL.e_fGt, DL.e_fGe, DL.e_ltS, DL.e_eq_int, DL.e_ne_int, DL.e_eq_str, DL.e_ne_str, DL.e_eq_bl, DL.e_ne_bl, DL.e_eqx91, DL.e_nex92, DL.e_eqx93, DL.e_nex94, DL.e_eqx95, DL.e_nex96, DL.e_eqx97, DL.e_nex98, DL.e_eqx99, DL.e_nex100, DL.e_is, DL.e_isnot, DL.e_isn0, DL.e_isn1, DL.e_isn2, DL.e_isn3, DL.e_isn4, DL.e_isn5, DL.e_isn6, DL.e_isn7, DL.e_isn8, DL.e_fIn1, DL.e_fIn2, DL.e_fIn3, DL.e_fNotIn1, DL.e_fNotIn2, DL.e_fNotIn3, DL.e_sl1, DL.e_sl2, DL.e_sl3, DL.e_len1, DL.e_len2, DL.e_len3, DL.e_int1, DL.e_int2, DL.e_list1, DL.e_list2, DL.e_list3, DL.e_tru1, DL.e_tru2, DL.e_tru3, DL.e_tru4, DL.e_tru5, DL.e_tru6, DL.e_ix_lst0, DL.e_ix_tup0, DL.e_ix_lst1, DL.e_ix_tup1, DL.e_ix_lst2, DL.e_ix_tup2, DL.e_ix_lst3, DL.e_ix_tup3, DL.e_ix_lst4, DL.e_ix_tup4, DL.e_ix_lst5, DL.e_ix_tup5, DL.e_ix_lst6, DL.e_ix_tup6, DL.e_ix_lst7, DL.e_ix_tup7, DL.e_gtp, DL.e_gsc, DL.e_gsn, DL.e_into1, DL.e_into2, DL.e_into3, DL.e_ty0, DL.e_ty1, DL.e_ty2, DL.e_ty3, DL.e_ty4, DL.e_ty5, DL.e_ty6, DL.e_tyis_non_non, DL.e_tyis_non_bl, DL.e_tyis_non_int, DL.e_tyis_non_str, DL.e_tyis_non_lst, DL.e_tyis_non_tup, DL.e_tyis_non_dk, DL.e_tyis_bl_non, DL.e_tyis_bl_bl, DL.e_tyis_bl_int, DL.e_tyis_bl_str, DL.e_tyis_bl_lst, DL.e_tyis_bl_tup, DL.e_tyis_bl_dk, DL.e_tyis_int_non, DL.e_tyis_int_bl, DL.e_tyis_int_int, DL.e_tyis_int_str, DL.e_tyis_int_lst, DL.e_tyis_int_tup, DL.e_tyis_int_dk, DL.e_tyis_str_non, DL.e_tyis_str_bl, DL.e_tyis_str_int, DL.e_tyis_str_str, DL.e_tyis_str_lst, DL.e_tyis_str_tup, DL.e_tyis_str_dk, DL.e_tyis_lst_non, DL.e_tyis_lst_bl, DL.e_tyis_lst_int, DL.e_tyis_lst_str, DL.e_tyis_lst_lst, DL.e_tyis_lst_tup, DL.e_tyis_lst_dk, DL.e_tyis_tup_non, DL.e_tyis_tup_bl, DL.e_tyis_tup_int, DL.e_tyis_tup_str, DL.e_tyis_tup_lst, DL.e_tyis_tup_tup, DL.e_tyis_tup_dk, DL.e_tyis_dk_non, DL.e_tyis_dk_bl, DL.e_tyis_dk_int, DL.e_tyis_dk_str, DL.e_tyis_dk_lst, DL.e_tyis_dk_tup, DL.e_tyis_dk_dk, DL.e_orF, DL.e_zip1, DL.e_zip2, DL.e_slv1, DL.e_slv2, DL.e_itet, DL.e_itef, DL.e_dtt, DL.e_dff, DL.e_dtf, DL.e_dft, DL.e_nt, DL.e_nf, DL.e_off, DL.e_oft, DL.e_otf, DL.e_ott, List.map, List.replicate, List.length, List.append, List.tail, List.cons_append, List.nil_append, List.append_nil, List.length_cons, List.length_nil, Nat.reduceAdd, Nat.reduceSub, DL.e_gtpl, DL.uRevS, DL.uItQ, DL.e_asQ1, DL.e_asQ2, DL.e_asQ3, DL.e_at1, DL.e_at2, DL.e_at3, DL.e_in1, DL.e_in2, DL.e_in3, DL.e_nin1, DL.e_nin2, DL.e_nin3, DL.uML, DL.uFld, DL.uMeth, DL.uMake, DL.uPutF, DL.uPut, DL.uGet2, DL.uItK, DL.vVar, DL.uCallO, DL.uDict0, DL.uItW, DL.vAt, DL.vFld, DL.u2B, DL.uChn, DL.e_lenU1, DL.e_lenU2, DL.e_lenU3, DL.e_lenU4, DL.e_listU1, DL.e_listU2, DL.e_listU3, DL.e_listU4, DL.uPar3, DL.uCallP, DL.uCallBP, DL.uCallK, DL.e_kput1, DL.e_into4, DL.e_into5, DL.uLend, DL.e_kput2, DL.uEnumQ, DL.e_aslt1, DL.e_aslt2])
def top (i : Nat) : Stmt := PySem.Challenge.pw_threadmark_k22_invalid_strings.main.body.getD i (.Pass ⟨0, 0, 0, 0⟩)
abbrev s__law_bag : Stmt := top 17
theorem sc__law_bag : FnScope ["_law_script", "_law_salt", "_law_cell"] ["_law_script"] (defScope s__law_bag) := ⟨rfl, rfl, rfl, by decide +kernel, rfl, by decide +kernel, by decide +kernel⟩
abbrev s__law_pull : Stmt := top 18
theorem sc__law_pull : FnScope ["_law_bag_here", "_law_many", "_law_cell", "_law_digit", "_law_square"] ["_law_bag_here", "_law_many"] (defScope s__law_pull) := ⟨rfl, rfl, rfl, by decide +kernel, rfl, by decide +kernel, by decide +kernel⟩
abbrev s__law_field : Stmt := top 21
theorem sc__law_field : FnScope ["_law_e"] ["_law_e"] (defScope s__law_field) := ⟨rfl, rfl, rfl, by decide +kernel, rfl, by decide +kernel, by decide +kernel⟩
abbrev s__law_tried : Stmt := top 22
theorem sc__law_tried : FnScope ["_law_ask", "_law_e"] ["_law_ask"] (defScope s__law_tried) := ⟨rfl, rfl, rfl, by decide +kernel, rfl, by decide +kernel, by decide +kernel⟩
abbrev s__law_of : Stmt := top 19
theorem sc__law_of : FnScope ["_law_bag_here", "_law_things"] ["_law_bag_here", "_law_things"] (defScope s__law_of) := ⟨rfl, rfl, rfl, by decide +kernel, rfl, by decide +kernel, by decide +kernel⟩
abbrev s__law_signed : Stmt := top 24
theorem sc__law_signed : FnScope ["_law_mturned", "_law_body_here"] ["_law_mturned", "_law_body_here"] (defScope s__law_signed) := ⟨rfl, rfl, rfl, by decide +kernel, rfl, by decide +kernel, by decide +kernel⟩
abbrev s__law_string : Stmt := top 25
theorem sc__law_string : FnScope ["_law_bag_here", "_law_size", "_law_k"] ["_law_bag_here", "_law_size"] (defScope s__law_string) := ⟨rfl, rfl, rfl, by decide +kernel, rfl, by decide +kernel, by decide +kernel⟩
abbrev s_check_string : Stmt := top 9
theorem sc_check_string : FnScope ["text", "body", "letter"] ["text"] (defScope s_check_string) := ⟨rfl, rfl, rfl, by decide +kernel, rfl, by decide +kernel, by decide +kernel⟩
abbrev s_identity : Stmt := top 12
theorem sc_identity : FnScope ["size"] ["size"] (defScope s_identity) := ⟨rfl, rfl, rfl, by decide +kernel, rfl, by decide +kernel, by decide +kernel⟩
abbrev s_split_sign : Stmt := top 10
theorem sc_split_sign : FnScope ["text"] ["text"] (defScope s_split_sign) := ⟨rfl, rfl, rfl, by decide +kernel, rfl, by decide +kernel, by decide +kernel⟩
abbrev s_joined : Stmt := top 11
theorem sc_joined : FnScope ["sign", "letters"] ["sign", "letters"] (defScope s_joined) := ⟨rfl, rfl, rfl, by decide +kernel, rfl, by decide +kernel, by decide +kernel⟩
abbrev s_times : Stmt := top 13
theorem sc_times : FnScope ["one", "other", "sign", "first", "turn", "second", "letters", "left", "right", "left_x", "left_z", "right_x", "right_z"] ["one", "other"] (defScope s_times) := ⟨rfl, rfl, rfl, by decide +kernel, rfl, by decide +kernel, by decide +kernel⟩
abbrev s_multiply : Stmt := top 14
theorem sc_multiply : FnScope ["strings", "text", "result"] ["strings"] (defScope s_multiply) := ⟨rfl, rfl, rfl, by decide +kernel, rfl, by decide +kernel, by decide +kernel⟩
abbrev s__law_body : Stmt := top 23
theorem sc__law_body : FnScope ["_law_text"] ["_law_text"] (defScope s__law_body) := ⟨rfl, rfl, rfl, by decide +kernel, rfl, by decide +kernel, by decide +kernel⟩
abbrev s__law_is_string : Stmt := top 26
theorem sc__law_is_string : FnScope ["_law_text", "_law_sign"] ["_law_text"] (defScope s__law_is_string) := ⟨rfl, rfl, rfl, by decide +kernel, rfl, by decide +kernel, by decide +kernel⟩
abbrev s__law_same : Stmt := top 20
theorem sc__law_same : FnScope ["_law_found", "_law_due", "_law_one", "_law_other"] ["_law_found", "_law_due"] (defScope s__law_same) := ⟨rfl, rfl, rfl, by decide +kernel, rfl, by decide +kernel, by decide +kernel⟩
abbrev s_commute : Stmt := top 15
theorem sc_commute : FnScope ["one", "other"] ["one", "other"] (defScope s_commute) := ⟨rfl, rfl, rfl, by decide +kernel, rfl, by decide +kernel, by decide +kernel⟩
abbrev s_law : Stmt := top 27
theorem sc_law : FnScope ["_law_script", "_law_bag_here", "_law_turn", "_law_size", "_law_some", "_law_k", "_law_step", "_law_at", "_law_sign", "_law_wrong", "_law_one", "_law_sizes", "_law_due", "_law_told", "_law_bad", "_law_words"] ["_law_script"] (defScope s_law) := ⟨rfl, rfl, rfl, by decide +kernel, rfl, by decide +kernel, by decide +kernel⟩
structure Bt (mg : Str → Option Value) : Prop where
  all_ : mg "all" = none
  bool_ : mg "bool" = none
  dict_ : mg "dict" = none
  int_ : mg "int" = none
  isinstance_ : mg "isinstance" = none
  len_ : mg "len" = none
  list_ : mg "list" = none
  range_ : mg "range" = none
  set_ : mg "set" = none
  sorted_ : mg "sorted" = none
  str_ : mg "str" = none
  tuple_ : mg "tuple" = none
  zip_ : mg "zip" = none
  g_LETTERS : ∃ u, mg "LETTERS" = some u ∧ RelV (.str "1XZW") u
def c_BITS : List (Str × D) := [("1", .tup [.int 0, .int 0]), ("X", .tup [.int 1, .int 0]), ("Z", .tup [.int 0, .int 1]), ("W", .tup [.int 1, .int 1])]
def c_FROM_BITS : List (List Int × D) := [([0, 0], .str "1"), ([1, 0], .str "X"), ([0, 1], .str "Z"), ([1, 1], .str "W")]
structure GdC (P : Program) (K : PySem.W.Frag) (w : World) (mg : Str → Option Value) : Prop where
  d_BITS : KdS K w mg "BITS" c_BITS
  d_FROM_BITS : KdT P K w mg "FROM_BITS" c_FROM_BITS
section
variable {P : Program} {w : World} {K : PySem.W.Frag} {mg : Str → Option Value} {base : Heap}
theorem cut_map (ns : List Int) (lo hi : Option Int) : ∃ ms : List Int, cutV (ns.map V.int) lo hi = ms.map V.int ∧ ms.length ≤ ns.length := by
  refine ⟨(ns.drop (HT.sIx ns.length 0 lo)).take (HT.sIx ns.length ns.length hi - HT.sIx ns.length 0 lo), ?_, ?_⟩
  · unfold cutV
    rw [List.length_map, List.map_take, List.map_drop]
  · rw [List.length_take, List.length_drop]
    omega
theorem ok__law_bag (B : Bt mg) (Hr : Here K mg "_law_bag" s__law_bag ["_law_script"]) : Known P w K mg base "_law_bag" 1 ["_law_script"] (spBagT K) := by
  obtain ⟨f, fd, F, hm, hbi⟩ := Hr.ex
  refine ⟨f, fd, F.ok sc__law_bag (fun vs H Q E h => ?_) (fun cdv A outer s H vs Q E hr h => ?_), hm, F.kp, hbi⟩
  · obtain ⟨a, ns, rfl, _⟩ := h
    rfl
  · obtain ⟨a, ns, rfl, hS, hl, kk⟩ := h
    refine ⟨_, pss_cons (ps_set (i := 1) sc__law_bag.nd rfl (Or.inl rfl) pe_int)
      (pss_cons (ps_for PassesOwn.never rfl (pi_list (pe_slice sl_list (pv 0) po_none (po_some pe_int))) (pg_name (i := 2) sc__law_bag.nd rfl (Or.inl rfl))
        (pss_one (ps_set (i := 1) sc__law_bag.nd rfl (Or.inl rfl) (pe_op op_mod (pe_op op_add (pe_op op_add (pe_op op_mul (pv 1) pe_int) (pe_op op_mod (pv 2) pe_int)) pe_int) pe_int))))
      (pss_one (ps_ret (pe_lst (pa_cons (pe_callTy call_list_of (by rfl) B.list_ (by decide +kernel) (pa_cons (pe_slice sl_list (pv 0) po_none (po_some pe_int)) pa_nil)) (pa_cons pe_int (pa_cons pe_int (pa_cons (pv 1) pa_nil)))))))), ?_⟩
    obtain ⟨ms, hms, hml⟩ := cut_map ns none (some 63)
    refine ⟨_, rfl, 63, rfl, a, _, rfl, hS, fun p np => ?_⟩
    rw [hms]
    refine ⟨p, rfl, ⟨_, SqL.of upd_same⟩, for_list (K := K) (a := p) (xs := ms.map V.int) (fun i σ H' => ∃ (z : Int) (v : Option V), σ = [some (.ref a), some (.int z), v] ∧ 0 ≤ z ∧ z < 2147483549 ∧ Same (L2.upd H p (.lst (ms.map V.int))) H') ?_ ?_ ?_ ?_⟩
    · exact ⟨3808, none, rfl, by decide, by decide, Same.refl _⟩
    · rintro i σ H' _ ⟨z, v, _, _, _, sm⟩
      exact sm.seq (SqL.of upd_same)
    · rintro i x σ H' hx ⟨z, v, rfl, z0, z1, sm⟩
      obtain ⟨y, _, rfl⟩ : ∃ y, ms[i]? = some y ∧ x = V.int y := by
        rw [List.getElem?_map] at hx
        cases e : ms[i]? with
        | none => rw [e] at hx; cases hx
        | some y => rw [e] at hx; exact ⟨y, rfl, (Option.some.inj hx).symm⟩
      refine ⟨_, rfl, _, _, rfl, rfl, .inr ⟨by decide, by decide⟩, _, rfl, _, _, rfl, rfl, (by show (0 : Int) < 2147483549; decide), _, _, rfl, rfl, _, _, rfl, rfl, _, _, rfl, rfl, (by show (0 : Int) < 2147483549; decide), ?_⟩
      refine ⟨_, _, rfl, ?_, ?_, sm⟩
      · exact Int.emod_nonneg _ (by decide)
      · exact Int.emod_lt_of_pos _ (by decide)
    · rintro σ H' ⟨z, v, rfl, z0, z1, sm⟩
      have hS' : SqL K H' a (ns.map V.int) := sm.seq (Same.seq (fun c o h => by rw [upd_ne (ne_of_none h np)]; exact h) hS)
      refine ⟨_, rfl, 63, rfl, a, _, rfl, hS', fun p2 np2 => ?_⟩
      rw [hms]
      refine ⟨p2, _, rfl, .inl (SqL.of upd_same), fun l hl2 => ?_⟩
      refine ⟨_, rfl, by rw [sizeLine_eq]; show 4 ≤ 16777216; decide, fun q hq => ?_⟩
      refine kk _ q l ms z (fun c o h => ?_) upd_same ?_ (Nat.le_trans hml hl) z0 z1
      · have h1 : H' c = some o := sm c o (by rw [upd_ne (ne_of_none h np)]; exact h)
        have h2 := (upd_ne (H := H') (o := .lst (ms.map V.int)) (ne_of_none h1 np2)).trans h1
        have h3 := (upd_ne (o := .lst (ms.map V.int)) (ne_of_none h2 hl2)).trans h2
        rw [upd_ne (ne_of_none h3 hq)]
        exact h3
      rw [upd_ne (fun e => by subst e; rw [upd_same] at hq; cases hq), upd_same]
def codes : List (Str × Str) := [("invalidnode", "node"), ("invalidmark", "node"), ("nodetaken", "node"), ("notbare", "node"), ("invaliddrawing", "node"), ("unknownnode", "node"), ("invalidname", "name"), ("invalidedge", "name"), ("edgetaken", "name"), ("invalidwebname", "name"), ("nametaken", "name"), ("unknownedge", "name"), ("unknownweb", "name"), ("invalidstep", "index"), ("invalidcommand", "index"), ("limitexceeded", "limit"), ("invalidlimit", "limit"), ("invalidword", "position"), ("invalidstring", "value"), ("invaliddocument", "line")]
def bare : List Str := ["lengthmismatch", "invalidform", "notable", "parseerror", "emptyhistory"]
def F__law_field (K : PySem.W.Frag) : FS := fun ds P => ∃ (C : Addr) (c : Str), L2.XfC K C ∧ PySem.W.findIn K (.ref C) "code" = some none ∧
  ((∃ f y, (c, f) ∈ codes ∧ PySem.W.findIn K (.ref C) f = some none ∧ ds = [.exc C [("code", .str c), (f, y)]] ∧ P (.sh y)) ∨ (c ∈ bare ∧ ds = [.exc C [("code", .str c)]] ∧ P (.sh .non)))
def U_law_field_0_t_0 (K : PySem.W.Frag) : DS := (uRet (uX (uXf K "node" (uVar 0))))
def U_law_field_1_t_0 (K : PySem.W.Frag) : DS := (uRet (uX (uXf K "name" (uVar 0))))
def U_law_field_2_t_0 (K : PySem.W.Frag) : DS := (uRet (uX (uXf K "index" (uVar 0))))
def U_law_field_3_t_0 (K : PySem.W.Frag) : DS := (uRet (uX (uXf K "limit" (uVar 0))))
def U_law_field_4_t_0 (K : PySem.W.Frag) : DS := (uRet (uX (uXf K "position" (uVar 0))))
def U_law_field_5_t_0 (K : PySem.W.Frag) : DS := (uRet (uX (uXf K "value" (uVar 0))))
def U_law_field_6 (K : PySem.W.Frag) : DS := (uRet (uX (uIfE (uTest (uBin fEq (uXf K "code" (uVar 0)) (uC (.str "invaliddocument")))) (uXf K "line" (uVar 0)) (uC .non))))
def U_law_field_5 (K : PySem.W.Frag) : DS := uSeq (uIf (uTest (uBin fEq (uXf K "code" (uVar 0)) (uC (.str "invalidstring")))) (U_law_field_5_t_0 K) uNext) (U_law_field_6 K)
def U_law_field_4 (K : PySem.W.Frag) : DS := uSeq (uIf (uTest (uBin fEq (uXf K "code" (uVar 0)) (uC (.str "invalidword")))) (U_law_field_4_t_0 K) uNext) (U_law_field_5 K)
def U_law_field_3 (K : PySem.W.Frag) : DS := uSeq (uIf (uTest (uBin (fInU false) (uXf K "code" (uVar 0)) (uLst (uCons (uC (.str "limitexceeded")) (uCons (uC (.str "invalidlimit")) uNil))))) (U_law_field_3_t_0 K) uNext) (U_law_field_4 K)
def U_law_field_2 (K : PySem.W.Frag) : DS := uSeq (uIf (uTest (uBin (fInU false) (uXf K "code" (uVar 0)) (uLst (uCons (uC (.str "invalidstep")) (uCons (uC (.str "invalidcommand")) uNil))))) (U_law_field_2_t_0 K) uNext) (U_law_field_3 K)
def U_law_field_1 (K : PySem.W.Frag) : DS := uSeq (uIf (uTest (uBin (fInU false) (uXf K "code" (uVar 0)) (uLst (uCons (uC (.str "invalidname")) (uCons (uC (.str "invalidedge")) (uCons (uC (.str "edgetaken")) (uCons (uC (.str "invalidwebname")) (uCons (uC (.str "nametaken")) (uCons (uC (.str "unknownedge")) (uCons (uC (.str "unknownweb")) uNil)))))))))) (U_law_field_1_t_0 K) uNext) (U_law_field_2 K)
def U_law_field_0 (K : PySem.W.Frag) : DS := uSeq (uIf (uTest (uBin (fInU false) (uXf K "code" (uVar 0)) (uLst (uCons (uC (.str "invalidnode")) (uCons (uC (.str "invalidmark")) (uCons (uC (.str "nodetaken")) (uCons (uC (.str "notbare")) (uCons (uC (.str "invaliddrawing")) (uCons (uC (.str "unknownnode")) uNil))))))))) (U_law_field_0_t_0 K) uNext) (U_law_field_1 K)
theorem ok__law_field (B : Bt mg)  (Hr : Here K mg "_law_field" s__law_field ["_law_e"]) : KnownF P w K mg base "_law_field" 2 ["_law_e"] (spN K (F__law_field K)) := by
  obtain ⟨f, fd, F, hm, hbi⟩ := Hr.ex
  refine ⟨f, fd, fn_dataC (u := (U_law_field_0 K)) F sc__law_field ?len (fun b cdv A outer s H hr => (dss_cons
    (ds_if (dt_inU (hu_c hr) (d_xf (d_var 0)) (d_lst (da_cons d_str (da_cons d_str (da_cons d_str (da_cons d_str (da_cons d_str (da_cons d_str da_nil)))))))) (dss_one
    (ds_ret (PD.x (d_xf (d_var 0))))) dss_nil) (dss_cons
    (ds_if (dt_inU (hu_c hr) (d_xf (d_var 0)) (d_lst (da_cons d_str (da_cons d_str (da_cons d_str (da_cons d_str (da_cons d_str (da_cons d_str (da_cons d_str da_nil))))))))) (dss_one
    (ds_ret (PD.x (d_xf (d_var 0))))) dss_nil) (dss_cons
    (ds_if (dt_inU (hu_c hr) (d_xf (d_var 0)) (d_lst (da_cons d_str (da_cons d_str da_nil)))) (dss_one
    (ds_ret (PD.x (d_xf (d_var 0))))) dss_nil) (dss_cons
    (ds_if (dt_inU (hu_c hr) (d_xf (d_var 0)) (d_lst (da_cons d_str (da_cons d_str da_nil)))) (dss_one
    (ds_ret (PD.x (d_xf (d_var 0))))) dss_nil) (dss_cons
    (ds_if (dt_eq (hu_c hr) (d_xf (d_var 0)) d_str) (dss_one
    (ds_ret (PD.x (d_xf (d_var 0))))) dss_nil) (dss_cons
    (ds_if (dt_eq (hu_c hr) (d_xf (d_var 0)) d_str) (dss_one
    (ds_ret (PD.x (d_xf (d_var 0))))) dss_nil) (dss_one
    (ds_ret (PD.x (d_if (dt_eq (hu_c hr) (d_xf (d_var 0)) d_str) (d_xf (d_var 0)) d_non))))))))))) ?hu, hm, F.kp, hbi⟩
  case len =>
    rintro ds P ⟨C, c, _, _, ⟨_, _, _, _, rfl, _⟩ | ⟨_, rfl, _⟩⟩ <;> rfl
  case hu =>
    rintro ds P ⟨C, c, xf, nc, ⟨f, y, hc, nf, rfl, k⟩ | ⟨hc, rfl, k⟩⟩
    · simp only [codes, List.mem_cons, List.not_mem_nil, or_false, Prod.mk.injEq] at hc
      rcases hc with ⟨rfl, rfl⟩ | ⟨rfl, rfl⟩ | ⟨rfl, rfl⟩ | ⟨rfl, rfl⟩ | ⟨rfl, rfl⟩ | ⟨rfl, rfl⟩ | ⟨rfl, rfl⟩ | ⟨rfl, rfl⟩ | ⟨rfl, rfl⟩ | ⟨rfl, rfl⟩ | ⟨rfl, rfl⟩ | ⟨rfl, rfl⟩ | ⟨rfl, rfl⟩ | ⟨rfl, rfl⟩ | ⟨rfl, rfl⟩ | ⟨rfl, rfl⟩ | ⟨rfl, rfl⟩ | ⟨rfl, rfl⟩ | ⟨rfl, rfl⟩ | ⟨rfl, rfl⟩
      · unfold U_law_field_0
        walk_at "dm"
        refine ⟨C, _, _, rfl, xf, nc, rfl, by decide, rfl, rfl, ?_⟩
        walk_at "dm"
        refine Eq.mpr (if_pos (by decide)) ?_
        unfold U_law_field_0_t_0
        walk_at "dm"
        exact ⟨C, _, _, rfl, xf, nf, rfl, k⟩
      · unfold U_law_field_0
        walk_at "dm"
        refine ⟨C, _, _, rfl, xf, nc, rfl, by decide, rfl, rfl, ?_⟩
        walk_at "dm"
        refine Eq.mpr (if_pos (by decide)) ?_
        unfold U_law_field_0_t_0
        walk_at "dm"
        exact ⟨C, _, _, rfl, xf, nf, rfl, k⟩
      · unfold U_law_field_0
        walk_at "dm"
        refine ⟨C, _, _, rfl, xf, nc, rfl, by decide, rfl, rfl, ?_⟩
        walk_at "dm"
        refine Eq.mpr (if_pos (by decide)) ?_
        unfold U_law_field_0_t_0
        walk_at "dm"
        exact ⟨C, _, _, rfl, xf, nf, rfl, k⟩
      · unfold U_law_field_0
        walk_at "dm"
        refine ⟨C, _, _, rfl, xf, nc, rfl, by decide, rfl, rfl, ?_⟩
        walk_at "dm"
        refine Eq.mpr (if_pos (by decide)) ?_
        unfold U_law_field_0_t_0
        walk_at "dm"
        exact ⟨C, _, _, rfl, xf, nf, rfl, k⟩
      · unfold U_law_field_0
        walk_at "dm"
        refine ⟨C, _, _, rfl, xf, nc, rfl, by decide, rfl, rfl, ?_⟩
        walk_at "dm"
        refine Eq.mpr (if_pos (by decide)) ?_
        unfold U_law_field_0_t_0
        walk_at "dm"
        exact ⟨C, _, _, rfl, xf, nf, rfl, k⟩
      · unfold U_law_field_0
        walk_at "dm"
        refine ⟨C, _, _, rfl, xf, nc, rfl, by decide, rfl, rfl, ?_⟩
        walk_at "dm"
        refine Eq.mpr (if_pos (by decide)) ?_
        unfold U_law_field_0_t_0
        walk_at "dm"
        exact ⟨C, _, _, rfl, xf, nf, rfl, k⟩
      · unfold U_law_field_0
        walk_at "dm"
        refine ⟨C, _, _, rfl, xf, nc, rfl, by decide, rfl, rfl, ?_⟩
        walk_at "dm"
        refine Eq.mpr (if_neg (by decide)) ?_
        unfold U_law_field_1
        walk_at "dm"
        refine ⟨C, _, _, rfl, xf, nc, rfl, by decide, rfl, rfl, ?_⟩
        walk_at "dm"
        refine Eq.mpr (if_pos (by decide)) ?_
        unfold U_law_field_1_t_0
        walk_at "dm"
        exact ⟨C, _, _, rfl, xf, nf, rfl, k⟩
      · unfold U_law_field_0
        walk_at "dm"
        refine ⟨C, _, _, rfl, xf, nc, rfl, by decide, rfl, rfl, ?_⟩
        walk_at "dm"
        refine Eq.mpr (if_neg (by decide)) ?_
        unfold U_law_field_1
        walk_at "dm"
        refine ⟨C, _, _, rfl, xf, nc, rfl, by decide, rfl, rfl, ?_⟩
        walk_at "dm"
        refine Eq.mpr (if_pos (by decide)) ?_
        unfold U_law_field_1_t_0
        walk_at "dm"
        exact ⟨C, _, _, rfl, xf, nf, rfl, k⟩
      · unfold U_law_field_0
        walk_at "dm"
        refine ⟨C, _, _, rfl, xf, nc, rfl, by decide, rfl, rfl, ?_⟩
        walk_at "dm"
        refine Eq.mpr (if_neg (by decide)) ?_
        unfold U_law_field_1
        walk_at "dm"
        refine ⟨C, _, _, rfl, xf, nc, rfl, by decide, rfl, rfl, ?_⟩
        walk_at "dm"
        refine Eq.mpr (if_pos (by decide)) ?_
        unfold U_law_field_1_t_0
        walk_at "dm"
        exact ⟨C, _, _, rfl, xf, nf, rfl, k⟩
      · unfold U_law_field_0
        walk_at "dm"
        refine ⟨C, _, _, rfl, xf, nc, rfl, by decide, rfl, rfl, ?_⟩
        walk_at "dm"
        refine Eq.mpr (if_neg (by decide)) ?_
        unfold U_law_field_1
        walk_at "dm"
        refine ⟨C, _, _, rfl, xf, nc, rfl, by decide, rfl, rfl, ?_⟩
        walk_at "dm"
        refine Eq.mpr (if_pos (by decide)) ?_
        unfold U_law_field_1_t_0
        walk_at "dm"
        exact ⟨C, _, _, rfl, xf, nf, rfl, k⟩
      · unfold U_law_field_0
        walk_at "dm"
        refine ⟨C, _, _, rfl, xf, nc, rfl, by decide, rfl, rfl, ?_⟩
        walk_at "dm"
        refine Eq.mpr (if_neg (by decide)) ?_
        unfold U_law_field_1
        walk_at "dm"
        refine ⟨C, _, _, rfl, xf, nc, rfl, by decide, rfl, rfl, ?_⟩
        walk_at "dm"
        refine Eq.mpr (if_pos (by decide)) ?_
        unfold U_law_field_1_t_0
        walk_at "dm"
        exact ⟨C, _, _, rfl, xf, nf, rfl, k⟩
      · unfold U_law_field_0
        walk_at "dm"
        refine ⟨C, _, _, rfl, xf, nc, rfl, by decide, rfl, rfl, ?_⟩
        walk_at "dm"
        refine Eq.mpr (if_neg (by decide)) ?_
        unfold U_law_field_1
        walk_at "dm"
        refine ⟨C, _, _, rfl, xf, nc, rfl, by decide, rfl, rfl, ?_⟩
        walk_at "dm"
        refine Eq.mpr (if_pos (by decide)) ?_
        unfold U_law_field_1_t_0
        walk_at "dm"
        exact ⟨C, _, _, rfl, xf, nf, rfl, k⟩
      · unfold U_law_field_0
        walk_at "dm"
        refine ⟨C, _, _, rfl, xf, nc, rfl, by decide, rfl, rfl, ?_⟩
        walk_at "dm"
        refine Eq.mpr (if_neg (by decide)) ?_
        unfold U_law_field_1
        walk_at "dm"
        refine ⟨C, _, _, rfl, xf, nc, rfl, by decide, rfl, rfl, ?_⟩
        walk_at "dm"
        refine Eq.mpr (if_pos (by decide)) ?_
        unfold U_law_field_1_t_0
        walk_at "dm"
        exact ⟨C, _, _, rfl, xf, nf, rfl, k⟩
      · unfold U_law_field_0
        walk_at "dm"
        refine ⟨C, _, _, rfl, xf, nc, rfl, by decide, rfl, rfl, ?_⟩
        walk_at "dm"
        refine Eq.mpr (if_neg (by decide)) ?_
        unfold U_law_field_1
        walk_at "dm"
        refine ⟨C, _, _, rfl, xf, nc, rfl, by decide, rfl, rfl, ?_⟩
        walk_at "dm"
        refine Eq.mpr (if_neg (by decide)) ?_
        unfold U_law_field_2
        walk_at "dm"
        refine ⟨C, _, _, rfl, xf, nc, rfl, by decide, rfl, rfl, ?_⟩
        walk_at "dm"
        refine Eq.mpr (if_pos (by decide)) ?_
        unfold U_law_field_2_t_0
        walk_at "dm"
        exact ⟨C, _, _, rfl, xf, nf, rfl, k⟩
      · unfold U_law_field_0
        walk_at "dm"
        refine ⟨C, _, _, rfl, xf, nc, rfl, by decide, rfl, rfl, ?_⟩
        walk_at "dm"
        refine Eq.mpr (if_neg (by decide)) ?_
        unfold U_law_field_1
        walk_at "dm"
        refine ⟨C, _, _, rfl, xf, nc, rfl, by decide, rfl, rfl, ?_⟩
        walk_at "dm"
        refine Eq.mpr (if_neg (by decide)) ?_
        unfold U_law_field_2
        walk_at "dm"
        refine ⟨C, _, _, rfl, xf, nc, rfl, by decide, rfl, rfl, ?_⟩
        walk_at "dm"
        refine Eq.mpr (if_pos (by decide)) ?_
        unfold U_law_field_2_t_0
        walk_at "dm"
        exact ⟨C, _, _, rfl, xf, nf, rfl, k⟩
      · unfold U_law_field_0
        walk_at "dm"
        refine ⟨C, _, _, rfl, xf, nc, rfl, by decide, rfl, rfl, ?_⟩
        walk_at "dm"
        refine Eq.mpr (if_neg (by decide)) ?_
        unfold U_law_field_1
        walk_at "dm"
        refine ⟨C, _, _, rfl, xf, nc, rfl, by decide, rfl, rfl, ?_⟩
        walk_at "dm"
        refine Eq.mpr (if_neg (by decide)) ?_
        unfold U_law_field_2
        walk_at "dm"
        refine ⟨C, _, _, rfl, xf, nc, rfl, by decide, rfl, rfl, ?_⟩
        walk_at "dm"
        refine Eq.mpr (if_neg (by decide)) ?_
        unfold U_law_field_3
        walk_at "dm"
        refine ⟨C, _, _, rfl, xf, nc, rfl, by decide, rfl, rfl, ?_⟩
        walk_at "dm"
        refine Eq.mpr (if_pos (by decide)) ?_
        unfold U_law_field_3_t_0
        walk_at "dm"
        exact ⟨C, _, _, rfl, xf, nf, rfl, k⟩
      · unfold U_law_field_0
        walk_at "dm"
        refine ⟨C, _, _, rfl, xf, nc, rfl, by decide, rfl, rfl, ?_⟩
        walk_at "dm"
        refine Eq.mpr (if_neg (by decide)) ?_
        unfold U_law_field_1
        walk_at "dm"
        refine ⟨C, _, _, rfl, xf, nc, rfl, by decide, rfl, rfl, ?_⟩
        walk_at "dm"
        refine Eq.mpr (if_neg (by decide)) ?_
        unfold U_law_field_2
        walk_at "dm"
        refine ⟨C, _, _, rfl, xf, nc, rfl, by decide, rfl, rfl, ?_⟩
        walk_at "dm"
        refine Eq.mpr (if_neg (by decide)) ?_
        unfold U_law_field_3
        walk_at "dm"
        refine ⟨C, _, _, rfl, xf, nc, rfl, by decide, rfl, rfl, ?_⟩
        walk_at "dm"
        refine Eq.mpr (if_pos (by decide)) ?_
        unfold U_law_field_3_t_0
        walk_at "dm"
        exact ⟨C, _, _, rfl, xf, nf, rfl, k⟩
      · unfold U_law_field_0
        walk_at "dm"
        refine ⟨C, _, _, rfl, xf, nc, rfl, by decide, rfl, rfl, ?_⟩
        walk_at "dm"
        refine Eq.mpr (if_neg (by decide)) ?_
        unfold U_law_field_1
        walk_at "dm"
        refine ⟨C, _, _, rfl, xf, nc, rfl, by decide, rfl, rfl, ?_⟩
        walk_at "dm"
        refine Eq.mpr (if_neg (by decide)) ?_
        unfold U_law_field_2
        walk_at "dm"
        refine ⟨C, _, _, rfl, xf, nc, rfl, by decide, rfl, rfl, ?_⟩
        walk_at "dm"
        refine Eq.mpr (if_neg (by decide)) ?_
        unfold U_law_field_3
        walk_at "dm"
        refine ⟨C, _, _, rfl, xf, nc, rfl, by decide, rfl, rfl, ?_⟩
        walk_at "dm"
        refine Eq.mpr (if_neg (by decide)) ?_
        unfold U_law_field_4
        walk_at "dm"
        refine ⟨C, _, _, rfl, xf, nc, rfl, ?_⟩
        walk_at "dm"
        refine Eq.mpr (if_pos (by decide)) ?_
        unfold U_law_field_4_t_0
        walk_at "dm"
        exact ⟨C, _, _, rfl, xf, nf, rfl, k⟩
      · unfold U_law_field_0
        walk_at "dm"
        refine ⟨C, _, _, rfl, xf, nc, rfl, by decide, rfl, rfl, ?_⟩
        walk_at "dm"
        refine Eq.mpr (if_neg (by decide)) ?_
        unfold U_law_field_1
        walk_at "dm"
        refine ⟨C, _, _, rfl, xf, nc, rfl, by decide, rfl, rfl, ?_⟩
        walk_at "dm"
        refine Eq.mpr (if_neg (by decide)) ?_
        unfold U_law_field_2
        walk_at "dm"
        refine ⟨C, _, _, rfl, xf, nc, rfl, by decide, rfl, rfl, ?_⟩
        walk_at "dm"
        refine Eq.mpr (if_neg (by decide)) ?_
        unfold U_law_field_3
        walk_at "dm"
        refine ⟨C, _, _, rfl, xf, nc, rfl, by decide, rfl, rfl, ?_⟩
        walk_at "dm"
        refine Eq.mpr (if_neg (by decide)) ?_
        unfold U_law_field_4
        walk_at "dm"
        refine ⟨C, _, _, rfl, xf, nc, rfl, ?_⟩
        walk_at "dm"
        refine Eq.mpr (if_neg (by decide)) ?_
        unfold U_law_field_5
        walk_at "dm"
        refine ⟨C, _, _, rfl, xf, nc, rfl, ?_⟩
        walk_at "dm"
        refine Eq.mpr (if_pos (by decide)) ?_
        unfold U_law_field_5_t_0
        walk_at "dm"
        exact ⟨C, _, _, rfl, xf, nf, rfl, k⟩
      · unfold U_law_field_0
        walk_at "dm"
        refine ⟨C, _, _, rfl, xf, nc, rfl, by decide, rfl, rfl, ?_⟩
        walk_at "dm"
        refine Eq.mpr (if_neg (by decide)) ?_
        unfold U_law_field_1
        walk_at "dm"
        refine ⟨C, _, _, rfl, xf, nc, rfl, by decide, rfl, rfl, ?_⟩
        walk_at "dm"
        refine Eq.mpr (if_neg (by decide)) ?_
        unfold U_law_field_2
        walk_at "dm"
        refine ⟨C, _, _, rfl, xf, nc, rfl, by decide, rfl, rfl, ?_⟩
        walk_at "dm"
        refine Eq.mpr (if_neg (by decide)) ?_
        unfold U_law_field_3
        walk_at "dm"
        refine ⟨C, _, _, rfl, xf, nc, rfl, by decide, rfl, rfl, ?_⟩
        walk_at "dm"
        refine Eq.mpr (if_neg (by decide)) ?_
        unfold U_law_field_4
        walk_at "dm"
        refine ⟨C, _, _, rfl, xf, nc, rfl, ?_⟩
        walk_at "dm"
        refine Eq.mpr (if_neg (by decide)) ?_
        unfold U_law_field_5
        walk_at "dm"
        refine ⟨C, _, _, rfl, xf, nc, rfl, ?_⟩
        walk_at "dm"
        refine Eq.mpr (if_neg (by decide)) ?_
        unfold U_law_field_6
        walk_at "dm"
        refine ⟨C, _, _, rfl, xf, nc, rfl, ?_⟩
        walk_at "dm"
        refine Eq.mpr (if_pos (by decide)) ?_
        exact ⟨C, _, _, rfl, xf, nf, rfl, k⟩
    · simp only [bare, List.mem_cons, List.not_mem_nil, or_false] at hc
      rcases hc with rfl | rfl | rfl | rfl | rfl
      · unfold U_law_field_0
        walk_at "dm"
        refine ⟨C, _, _, rfl, xf, nc, rfl, by decide, rfl, rfl, ?_⟩
        walk_at "dm"
        refine Eq.mpr (if_neg (by decide)) ?_
        unfold U_law_field_1
        walk_at "dm"
        refine ⟨C, _, _, rfl, xf, nc, rfl, by decide, rfl, rfl, ?_⟩
        walk_at "dm"
        refine Eq.mpr (if_neg (by decide)) ?_
        unfold U_law_field_2
        walk_at "dm"
        refine ⟨C, _, _, rfl, xf, nc, rfl, by decide, rfl, rfl, ?_⟩
        walk_at "dm"
        refine Eq.mpr (if_neg (by decide)) ?_
        unfold U_law_field_3
        walk_at "dm"
        refine ⟨C, _, _, rfl, xf, nc, rfl, by decide, rfl, rfl, ?_⟩
        walk_at "dm"
        refine Eq.mpr (if_neg (by decide)) ?_
        unfold U_law_field_4
        walk_at "dm"
        refine ⟨C, _, _, rfl, xf, nc, rfl, ?_⟩
        walk_at "dm"
        refine Eq.mpr (if_neg (by decide)) ?_
        unfold U_law_field_5
        walk_at "dm"
        refine ⟨C, _, _, rfl, xf, nc, rfl, ?_⟩
        walk_at "dm"
        refine Eq.mpr (if_neg (by decide)) ?_
        unfold U_law_field_6
        walk_at "dm"
        refine ⟨C, _, _, rfl, xf, nc, rfl, ?_⟩
        walk_at "dm"
        refine Eq.mpr (if_neg (by decide)) ?_
        exact k
      · unfold U_law_field_0
        walk_at "dm"
        refine ⟨C, _, _, rfl, xf, nc, rfl, by decide, rfl, rfl, ?_⟩
        walk_at "dm"
        refine Eq.mpr (if_neg (by decide)) ?_
        unfold U_law_field_1
        walk_at "dm"
        refine ⟨C, _, _, rfl, xf, nc, rfl, by decide, rfl, rfl, ?_⟩
        walk_at "dm"
        refine Eq.mpr (if_neg (by decide)) ?_
        unfold U_law_field_2
        walk_at "dm"
        refine ⟨C, _, _, rfl, xf, nc, rfl, by decide, rfl, rfl, ?_⟩
        walk_at "dm"
        refine Eq.mpr (if_neg (by decide)) ?_
        unfold U_law_field_3
        walk_at "dm"
        refine ⟨C, _, _, rfl, xf, nc, rfl, by decide, rfl, rfl, ?_⟩
        walk_at "dm"
        refine Eq.mpr (if_neg (by decide)) ?_
        unfold U_law_field_4
        walk_at "dm"
        refine ⟨C, _, _, rfl, xf, nc, rfl, ?_⟩
        walk_at "dm"
        refine Eq.mpr (if_neg (by decide)) ?_
        unfold U_law_field_5
        walk_at "dm"
        refine ⟨C, _, _, rfl, xf, nc, rfl, ?_⟩
        walk_at "dm"
        refine Eq.mpr (if_neg (by decide)) ?_
        unfold U_law_field_6
        walk_at "dm"
        refine ⟨C, _, _, rfl, xf, nc, rfl, ?_⟩
        walk_at "dm"
        refine Eq.mpr (if_neg (by decide)) ?_
        exact k
      · unfold U_law_field_0
        walk_at "dm"
        refine ⟨C, _, _, rfl, xf, nc, rfl, by decide, rfl, rfl, ?_⟩
        walk_at "dm"
        refine Eq.mpr (if_neg (by decide)) ?_
        unfold U_law_field_1
        walk_at "dm"
        refine ⟨C, _, _, rfl, xf, nc, rfl, by decide, rfl, rfl, ?_⟩
        walk_at "dm"
        refine Eq.mpr (if_neg (by decide)) ?_
        unfold U_law_field_2
        walk_at "dm"
        refine ⟨C, _, _, rfl, xf, nc, rfl, by decide, rfl, rfl, ?_⟩
        walk_at "dm"
        refine Eq.mpr (if_neg (by decide)) ?_
        unfold U_law_field_3
        walk_at "dm"
        refine ⟨C, _, _, rfl, xf, nc, rfl, by decide, rfl, rfl, ?_⟩
        walk_at "dm"
        refine Eq.mpr (if_neg (by decide)) ?_
        unfold U_law_field_4
        walk_at "dm"
        refine ⟨C, _, _, rfl, xf, nc, rfl, ?_⟩
        walk_at "dm"
        refine Eq.mpr (if_neg (by decide)) ?_
        unfold U_law_field_5
        walk_at "dm"
        refine ⟨C, _, _, rfl, xf, nc, rfl, ?_⟩
        walk_at "dm"
        refine Eq.mpr (if_neg (by decide)) ?_
        unfold U_law_field_6
        walk_at "dm"
        refine ⟨C, _, _, rfl, xf, nc, rfl, ?_⟩
        walk_at "dm"
        refine Eq.mpr (if_neg (by decide)) ?_
        exact k
      · unfold U_law_field_0
        walk_at "dm"
        refine ⟨C, _, _, rfl, xf, nc, rfl, by decide, rfl, rfl, ?_⟩
        walk_at "dm"
        refine Eq.mpr (if_neg (by decide)) ?_
        unfold U_law_field_1
        walk_at "dm"
        refine ⟨C, _, _, rfl, xf, nc, rfl, by decide, rfl, rfl, ?_⟩
        walk_at "dm"
        refine Eq.mpr (if_neg (by decide)) ?_
        unfold U_law_field_2
        walk_at "dm"
        refine ⟨C, _, _, rfl, xf, nc, rfl, by decide, rfl, rfl, ?_⟩
        walk_at "dm"
        refine Eq.mpr (if_neg (by decide)) ?_
        unfold U_law_field_3
        walk_at "dm"
        refine ⟨C, _, _, rfl, xf, nc, rfl, by decide, rfl, rfl, ?_⟩
        walk_at "dm"
        refine Eq.mpr (if_neg (by decide)) ?_
        unfold U_law_field_4
        walk_at "dm"
        refine ⟨C, _, _, rfl, xf, nc, rfl, ?_⟩
        walk_at "dm"
        refine Eq.mpr (if_neg (by decide)) ?_
        unfold U_law_field_5
        walk_at "dm"
        refine ⟨C, _, _, rfl, xf, nc, rfl, ?_⟩
        walk_at "dm"
        refine Eq.mpr (if_neg (by decide)) ?_
        unfold U_law_field_6
        walk_at "dm"
        refine ⟨C, _, _, rfl, xf, nc, rfl, ?_⟩
        walk_at "dm"
        refine Eq.mpr (if_neg (by decide)) ?_
        exact k
      · unfold U_law_field_0
        walk_at "dm"
        refine ⟨C, _, _, rfl, xf, nc, rfl, by decide, rfl, rfl, ?_⟩
        walk_at "dm"
        refine Eq.mpr (if_neg (by decide)) ?_
        unfold U_law_field_1
        walk_at "dm"
        refine ⟨C, _, _, rfl, xf, nc, rfl, by decide, rfl, rfl, ?_⟩
        walk_at "dm"
        refine Eq.mpr (if_neg (by decide)) ?_
        unfold U_law_field_2
        walk_at "dm"
        refine ⟨C, _, _, rfl, xf, nc, rfl, by decide, rfl, rfl, ?_⟩
        walk_at "dm"
        refine Eq.mpr (if_neg (by decide)) ?_
        unfold U_law_field_3
        walk_at "dm"
        refine ⟨C, _, _, rfl, xf, nc, rfl, by decide, rfl, rfl, ?_⟩
        walk_at "dm"
        refine Eq.mpr (if_neg (by decide)) ?_
        unfold U_law_field_4
        walk_at "dm"
        refine ⟨C, _, _, rfl, xf, nc, rfl, ?_⟩
        walk_at "dm"
        refine Eq.mpr (if_neg (by decide)) ?_
        unfold U_law_field_5
        walk_at "dm"
        refine ⟨C, _, _, rfl, xf, nc, rfl, ?_⟩
        walk_at "dm"
        refine Eq.mpr (if_neg (by decide)) ?_
        unfold U_law_field_6
        walk_at "dm"
        refine ⟨C, _, _, rfl, xf, nc, rfl, ?_⟩
        walk_at "dm"
        refine Eq.mpr (if_neg (by decide)) ?_
        exact k
def U_law_pull_0_t_3_t_0 : DS := (uSetIx 0 (uC (.int 2)) (uX (uVar 2)))
def U_law_pull_0_t_3_e_0 : DS := (uSetIx 0 (uC (.int 3)) (uX (uBin fMod (uBin fAdd (uBin fAdd (uBin fMul (uBin fIx (uVar 0) (uC (.int 3))) (uC (.int 52571))) (uBin fMul (uBin fMod (uVar 2) (uC (.int 2147483549))) (uC (.int 41)))) (uC (.int 29))) (uC (.int 2147483549)))))
def U_law_pull_0_t_3 : DS := (uIf (uTest (uBin fGe (uVar 2) (uBin fPow (uC (.int 10)) (uC (.int 18))))) U_law_pull_0_t_3_t_0 U_law_pull_0_t_3_e_0)
def U_law_pull_0_t_2 : DS := uSeq (uSetIx 0 (uC (.int 2)) (uX (uC (.int 0)))) U_law_pull_0_t_3
def U_law_pull_0_t_1 : DS := uSeq (uSetIx 0 (uC (.int 1)) (uX (uBin fAdd (uBin fIx (uVar 0) (uC (.int 1))) (uC (.int 1))))) U_law_pull_0_t_2
def U_law_pull_0_t_0 : DS := uSeq (uSet 2 (uX (uBin fIx (uBin fIx (uVar 0) (uC (.int 0))) (uBin fIx (uVar 0) (uC (.int 1)))))) U_law_pull_0_t_1
def U_law_pull_1_t_2 : DS := (uRet (uX (uVar 3)))
def U_law_pull_1_t_1 : DS := uSeq (uSetIx 0 (uC (.int 2)) (uX (uBin fDiv (uBin fIx (uVar 0) (uC (.int 2))) (uVar 1)))) U_law_pull_1_t_2
def U_law_pull_1_t_0 : DS := uSeq (uSet 3 (uX (uBin fMod (uBin fIx (uVar 0) (uC (.int 2))) (uVar 1)))) U_law_pull_1_t_1
def U_law_pull_4 : DS := (uRet (uX (uBin fMod (uBin fAdd (uBin fDiv (uBin fIx (uVar 0) (uC (.int 3))) (uC (.int 53))) (uBin fMul (uBin fMod (uBin fIx (uVar 0) (uC (.int 3))) (uC (.int 7919))) (uC (.int 31)))) (uVar 1))))
def U_law_pull_3 : DS := uSeq (uSetIx 0 (uC (.int 3)) (uX (uBin fMod (uBin fAdd (uBin fAdd (uBin fMul (uVar 4) (uC (.int 40699))) (uBin fMul (uBin fIx (uVar 0) (uC (.int 3))) (uC (.int 30323)))) (uC (.int 12347))) (uC (.int 2147483549))))) U_law_pull_4
def U_law_pull_2 : DS := uSeq (uSet 4 (uX (uBin fMod (uBin fMul (uBin fIx (uVar 0) (uC (.int 3))) (uBin fIx (uVar 0) (uC (.int 3)))) (uC (.int 2147483549))))) U_law_pull_3
def U_law_pull_1 : DS := uSeq (uIf (uTest (uBin fGe (uBin fIx (uVar 0) (uC (.int 2))) (uVar 1))) U_law_pull_1_t_0 uNext) U_law_pull_2
def U_law_pull_0 : DS := uSeq (uIf (uAnd (uTest (uBin fLt (uBin fIx (uVar 0) (uC (.int 2))) (uVar 1))) (uTest (uBin fLt (uBin fIx (uVar 0) (uC (.int 1))) (uB fLen (uBin fIx (uVar 0) (uC (.int 0))))))) U_law_pull_0_t_0 uNext) U_law_pull_1
theorem pull_end {q : Option Addr} {ns : List Int} {i : Nat} {m z n : Int} {c : Sl} {DD : DEnds} (hB : BagD ns i m z) (n0 : 0 < n) (n1 : n ≤ 1000000)
    (k : ∀ (ns : List Int) (i : Nat) (m z j : Int) (r : List Sl), BagD ns i m z → 0 ≤ j → j < n → DD.rt (.sh (.int j)) (.own q (.lst (bagL ns i m z)) :: r)) : U_law_pull_1 DD [.own q (.lst (bagL ns i m z)), .sh (.int n), c, .un, .un] := by
  unfold bagL U_law_pull_1
  walk_at "dl"
  refine ite_dec (fun h => ?_) (fun h => ?_)
  · unfold U_law_pull_1_t_0 U_law_pull_1_t_1 U_law_pull_1_t_2
    walk_at "dl"
    refine ⟨n0, ⟨n0, by omega⟩, ⟨_, _, rfl⟩, 2, _, _, rfl, rfl, (by simp), ?_⟩
    walk_at "dl"
    refine k ns i (m / n) z (m % n) _ ⟨hB.hi, hB.hl, Int.ediv_nonneg hB.hm (by omega), hB.hz, hB.hz'⟩ (Int.emod_nonneg _ (by omega)) (Int.emod_lt_of_pos _ n0)
  · unfold U_law_pull_2 U_law_pull_3 U_law_pull_4
    walk_at "dl"
    have h1 := hB.hz
    have h2 := hB.hz'
    refine ⟨.inl ⟨by omega, by omega⟩, by decide, .inr ⟨by decide, by decide⟩, .inr ⟨by decide, by decide⟩, by decide, ⟨_, _, rfl⟩, 3, _, _, rfl, rfl, (by simp), ?_⟩
    walk_at "dl"
    refine ⟨⟨by decide, by decide⟩, by decide, .inr ⟨by decide, by decide⟩, n0, ?_⟩
    exact k ns i m _ _ _ ⟨hB.hi, hB.hl, hB.hm, Int.emod_nonneg _ (by decide), Int.emod_lt_of_pos _ (by decide)⟩ (Int.emod_nonneg _ (by omega)) (Int.emod_lt_of_pos _ n0)
theorem ok__law_pull (B : Bt mg) (Hr : Here K mg "_law_pull" s__law_pull ["_law_bag_here", "_law_many"]) : Known P w K mg base "_law_pull" 1 ["_law_bag_here", "_law_many"] (spB K fPull) := by
  obtain ⟨f, fd, F, hm, hbi⟩ := Hr.ex
  refine fn_pull (u := U_law_pull_0) F hm hbi sc__law_pull rfl ⟨3, rfl⟩ (fun cdv A outer s H E hr => (dss_cons
    (ds_if (PDW.pt (dw_and (dt_lt (d_ix (d_var 0) d_int) (d_var 1)) (dw_and1 (dt_lt (d_ix (d_var 0) d_int) (d_len B.len_ (d_ix (d_var 0) d_int)))))) (dss_cons
    (ds_set (i := 2) (PD.x (d_ix (d_ix (d_var 0) d_int) (d_ix (d_var 0) d_int))) sc__law_pull.nd) (dss_cons
    (ds_setIx (i := 0) d_int (PD.x (d_add (d_ix (d_var 0) d_int) d_int))) (dss_cons
    (ds_setIx (i := 0) d_int (PD.x d_int)) (dss_one
    (ds_if (dt_ge (d_var 2) (d_pow d_int d_int)) (dss_one
    (ds_setIx (i := 0) d_int (PD.x (d_var 2)))) (dss_one
    (ds_setIx (i := 0) d_int (PD.x (d_mod (d_add (d_add (d_mul (d_ix (d_var 0) d_int) d_int) (d_mul (d_mod (d_var 2) d_int) d_int)) d_int) d_int))))))))) dss_nil) (dss_cons
    (ds_if (dt_ge (d_ix (d_var 0) d_int) (d_var 1)) (dss_cons
    (ds_set (i := 3) (PD.x (d_mod (d_ix (d_var 0) d_int) (d_var 1))) sc__law_pull.nd) (dss_cons
    (ds_setIx (i := 0) d_int (PD.x (d_div (d_ix (d_var 0) d_int) (d_var 1)))) (dss_one
    (ds_ret (PD.x (d_var 3)))))) dss_nil) (dss_cons
    (ds_set (i := 4) (PD.x (d_mod (d_mul (d_ix (d_var 0) d_int) (d_ix (d_var 0) d_int)) d_int)) sc__law_pull.nd) (dss_cons
    (ds_setIx (i := 0) d_int (PD.x (d_mod (d_add (d_add (d_mul (d_var 4) d_int) (d_mul (d_ix (d_var 0) d_int) d_int)) d_int) d_int))) (dss_one
    (ds_ret (PD.x (d_mod (d_add (d_div (d_ix (d_var 0) d_int) d_int) (d_mul (d_mod (d_ix (d_var 0) d_int) d_int) d_int)) (d_var 1)))))))))) ?hu
  intro q ns i m z n hB n0 n1
  have fin : ∀ (ns : List Int) (i : Nat) (m z : Int) (c : Sl), BagD ns i m z → U_law_pull_1 ⟨fun _ => False, fun r e => ∃ ns i m z j, nth e 0 = .own q (.lst (bagL ns i m z)) ∧ BagD ns i m z ∧ r = .sh (.int j) ∧ 0 ≤ j ∧ j < n, fun _ => False, fun _ => False⟩ [.own q (.lst (bagL ns i m z)), .sh (.int n), c, .un, .un] :=
    fun ns i m z c hB => pull_end hB n0 n1 fun ns i m z j r hB j0 j1 => ⟨ns, i, m, z, j, rfl, hB, rfl, j0, j1⟩
  generalize hDD : (⟨fun _ => False, fun r e => ∃ ns i m z j, nth e 0 = .own q (.lst (bagL ns i m z)) ∧ BagD ns i m z ∧ r = .sh (.int j) ∧ 0 ≤ j ∧ j < n, fun _ => False, fun _ => False⟩ : DEnds) = DD at fin ⊢
  unfold bagL U_law_pull_0
  walk_at "dl"
  refine ite_dec (fun h1 => ite_dec (fun h2 => ?_) (fun _ => fin ns i m z _ hB)) (fun _ => fin ns i m z _ hB)
  unfold U_law_pull_0_t_0 U_law_pull_0_t_1 U_law_pull_0_t_2 U_law_pull_0_t_3
  rw [List.length_map] at h2
  have hi : i < ns.length := by omega
  walk_at "dl"
  refine ix_at (x := .int ns[i]) (by rw [List.getElem?_map]; simp [hi]) ?_
  have hB' : ∀ m z, 0 ≤ m → 0 ≤ z → z < 2147483549 → BagD ns (i + 1) m z := fun m z a b c => ⟨by omega, hB.hl, a, b, c⟩
  walk_at "dl"
  refine ⟨⟨_, _, rfl⟩, 1, _, _, rfl, rfl, (by simp), ?_⟩
  walk_at "dl"
  refine ⟨⟨_, _, rfl⟩, 2, _, _, rfl, rfl, (by simp), ?_⟩
  walk_at "dl"
  refine ⟨⟨by decide, by decide, by decide⟩, ite_dec (fun h3 => ?_) (fun h3 => ?_)⟩
  · unfold U_law_pull_0_t_3_t_0
    walk_at "dl"
    refine ⟨⟨_, _, rfl⟩, 2, _, _, rfl, rfl, (by simp), ?_⟩
    walk_at "dl"
    exact fin ns (i + 1) _ z _ (hB' _ _ (Int.le_trans (by decide) h3) hB.hz hB.hz')
  · unfold U_law_pull_0_t_3_e_0
    walk_at "dl"
    refine ⟨.inr ⟨by decide, by decide⟩, by decide, .inr ⟨by decide, by decide⟩, by decide, ⟨_, _, rfl⟩, 3, _, _, rfl, rfl, (by simp), ?_⟩
    walk_at "dl"
    exact fin ns (i + 1) 0 _ _ (hB' _ _ (by decide) (Int.emod_nonneg _ (by decide)) (Int.emod_lt_of_pos _ (by decide)))
theorem ix_S {l : List Nat} {n c : Nat} {P : R → Prop} (h : l[n]? = some c) (hl : l.length ≤ 1000000) (p : P (.sh (.str (S [c])))) : fIx (.str (S l)) (.int (n : Int)) P := by
  show (S l).length ≤ 1000000 ∧ orF (fun c => P (.sh (.str (sign c)))) l[n]?
  rw [h]
  exact ⟨by rw [S_len]; exact hl, p⟩
def F__law_of : FS := fun ds P => (∃ xs : List D, (ds = [.lst xs] ∨ ds = [.tup xs]) ∧ 0 < xs.length ∧ xs.length ≤ 1000000 ∧ ∀ x ∈ xs, P (.sh x)) ∨ ∃ l : List Nat, ds = [.str (S l)] ∧ 0 < l.length ∧ l.length ≤ 1000000 ∧ ∀ c ∈ l, P (.sh (.str (S [c])))
def U_law_of_0 : DS := (uRet (uX (uBin fIx (uVar 1) (uCallB fPull 0 (uCons (uB fLen (uVar 1)) uNil)))))
theorem ok__law_of (B : Bt mg) (K__law_pull : Known P w K mg base "_law_pull" 1 ["_law_bag_here", "_law_many"] (spB K fPull)) (Hr : Here K mg "_law_of" s__law_of ["_law_bag_here", "_law_things"]) : Known P w K mg base "_law_of" 2 ["_law_bag_here", "_law_things"] (spB K F__law_of) := by
  obtain ⟨f, fd, F, hm, hbi⟩ := Hr.ex
  refine fn_bag (u := U_law_of_0) F hm hbi sc__law_of ?len rfl (fun b cdv A outer s H E hr => (dss_one
    (ds_ret (PD.x (d_ix (d_var 1) (d_callB (i := 0) K__law_pull (hr.mono (by omega)) (da_cons (d_len B.len_ (d_var 1)) da_nil))))))) ?hu
  case len => rintro ds P (⟨xs, rfl | rfl, _⟩ | ⟨l, rfl, _⟩) <;> rfl
  case hu =>
    rintro ds P (⟨xs, rfl | rfl, h0, h1, k⟩ | ⟨l, rfl, h0, h1, k⟩)
    · unfold U_law_of_0
      walk_at "dl"
      refine ⟨rfl, _, rfl, by omega, by omega, fun j j0 j1 => ?_⟩
      exact ix_mem j0 j1 k
    · unfold U_law_of_0
      walk_at "dl"
      refine ⟨rfl, _, rfl, by omega, by omega, fun j j0 j1 => ?_⟩
      exact ix_memT j0 j1 k
    · unfold U_law_of_0
      walk_at "dl"
      rw [S_len]
      refine ⟨rfl, h1, _, rfl, by omega, by omega, fun j j0 j1 => ?_⟩
      obtain ⟨n, rfl⟩ := Int.eq_ofNat_of_zero_le j0
      have hn : n < l.length := by omega
      exact ix_S (List.getElem?_eq_getElem hn) h1 (k _ (List.getElem_mem hn))
def F__law_same : Nat → FS
  | 0 => fun _ _ => False
  | n + 1 => fun ds P => ∃ d, ds = [d, d] ∧ simN n d = true ∧ P (.sh (.bl true))
def U_law_same_0_t_0 (Fr : FS) : DS := (uRet (uX (uAndV (uBin fIs (uVar 0) (uC .non)) (uBin fIs (uVar 1) (uC .non)))))
def U_law_same_1_t_1 (Fr : FS) : DS := uNever
def U_law_same_1_t_0 (Fr : FS) : DS := uSeq uNever (U_law_same_1_t_1 Fr)
def U_law_same_2_t_0_t_0 (Fr : FS) : DS := (uRet (uX (uC (.bl false))))
def U_law_same_2_t_1 (Fr : FS) : DS := (uRet (uX (uAndV (uBin fEq (uB fLen (uVar 0)) (uB fLen (uVar 1))) (uB fAll (uLc (uZip (uCons (uVar 0) (uCons (uVar 1) uNil))) (gTp (gsCons (gNm 2) (gsCons (gNm 3) gsNil))) uYes (uCall Fr (uCons (uVar 2) (uCons (uVar 3) uNil))) [2, 3])))))
def U_law_same_2_t_0 (Fr : FS) : DS := uSeq (uIf (uOr (uTest (uBin fNe (uIsi .lst (uVar 0)) (uIsi .lst (uVar 1)))) (uTest (uBin fNe (uIsi .tup (uVar 0)) (uIsi .tup (uVar 1))))) (U_law_same_2_t_0_t_0 Fr) uNext) (U_law_same_2_t_1 Fr)
def U_law_same_3_t_0 (Fr : FS) : DS := (uRet (uX (uC (.bl false))))
def U_law_same_4 (Fr : FS) : DS := (uRet (uX (uAndV (uBin fEq (uIsi .str (uVar 0)) (uIsi .str (uVar 1))) (uBin fEq (uVar 0) (uVar 1)))))
def U_law_same_3 (Fr : FS) : DS := uSeq (uIf (uOr (uTest (uBin fNe (uIsi .bl (uVar 0)) (uIsi .bl (uVar 1)))) (uTest (uBin fNe (uIsi .int (uVar 0)) (uIsi .int (uVar 1))))) (U_law_same_3_t_0 Fr) uNext) (U_law_same_4 Fr)
def U_law_same_2 (Fr : FS) : DS := uSeq (uIf (uTru (uIsi2 .lst .tup (uVar 1))) (U_law_same_2_t_0 Fr) uNext) (U_law_same_3 Fr)
def U_law_same_1 (Fr : FS) : DS := uSeq (uIf (uTru (uIsi .dk (uVar 1))) (U_law_same_1_t_0 Fr) uNext) (U_law_same_2 Fr)
def U_law_same_0 (Fr : FS) : DS := uSeq (uIf (uOr (uTest (uBin fIs (uVar 1) (uC .non))) (uTest (uBin fIs (uVar 0) (uC .non)))) (U_law_same_0_t_0 Fr) uNext) (U_law_same_1 Fr)
theorem same_list {Fr : FS} {xs : List D} {c : Sl} {DD : DEnds} {d : D} (hd : d = .lst xs ∨ d = .tup xs) (hl : xs.length ≤ 100000) (hF : ∀ x ∈ xs, ∀ P : R → Prop, P (.sh (.bl true)) → Fr [x, x] P) (k : ∀ e, DD.rt (.sh (.bl true)) e) : U_law_same_2_t_1 Fr DD [.sh d, .sh d, c, .un] := by
  have hz : (zips xs xs).length = xs.length := by unfold zips; simp
  unfold U_law_same_2_t_1
  rcases hd with rfl | rfl
  all_goals
    walk_at "dl"
    refine ite_of (decide_eq_true rfl) ⟨fun i acc => acc = (List.replicate i true).map .bl, rfl, ?_, ?_⟩
    · rintro i x acc hx rfl
      have hi := get_lt hx
      obtain ⟨y, hy, rfl⟩ := zips_self hx
      walk_at "dl"
      refine ⟨rfl, hF y hy _ ?_⟩
      walk_at "dl"
      refine ⟨by rw [List.length_map, List.length_replicate]; omega, ?_⟩
      show _ = (List.replicate (i + 1) true).map D.bl
      rw [List.replicate_succ', List.map_append]
      rfl
    · rintro acc rfl
      refine ⟨_, rfl, ?_⟩
      have e : (List.replicate (zips xs xs).length true).all id = true := by simp
      rw [e]
      exact k _
theorem same_step (B : Bt mg) {k : Nat} {n : Nat} (K__law_same : Known P w K mg base "_law_same" k ["_law_found", "_law_due"] (spN K (F__law_same n))) (Hr : Here K mg "_law_same" s__law_same ["_law_found", "_law_due"]) :
    Known P w K mg base "_law_same" (k + 1) ["_law_found", "_law_due"] (spN K (F__law_same (n + 1))) := by
  obtain ⟨f, fd, F, hm, hbi⟩ := Hr.ex
  refine fn_data (u := (U_law_same_0 (F__law_same n))) F hm hbi sc__law_same ?len (fun cdv A outer s H E hr => (dss_cons
    (ds_if (PDW.pt (dw_or (dt_is (d_var 1) d_non) (dw_or1 (dt_is (d_var 0) d_non)))) (dss_one
    (ds_ret (PD.x (d_and (d_is (d_var 0) d_non) (d_one (d_is (d_var 1) d_non)))))) dss_nil) (dss_cons
    (ds_if (dt_tru (d_isi (T := .dk) B.isinstance_ B.dict_ (by decide +kernel) (by decide) (d_var 1))) (dss_cons
    ds_never (dss_one
    ds_never)) dss_nil) (dss_cons
    (ds_if (dt_tru (d_isi2 (T := .lst) (T2 := .tup) B.isinstance_ B.list_ (by decide +kernel) (by decide) B.tuple_ (by decide +kernel) (by decide) (d_var 1))) (dss_cons
    (ds_if (PDW.pt (dw_or (dt_ne hr.units (d_isi (T := .lst) B.isinstance_ B.list_ (by decide +kernel) (by decide) (d_var 0)) (d_isi (T := .lst) B.isinstance_ B.list_ (by decide +kernel) (by decide) (d_var 1))) (dw_or1 (dt_ne hr.units (d_isi (T := .tup) B.isinstance_ B.tuple_ (by decide +kernel) (by decide) (d_var 0)) (d_isi (T := .tup) B.isinstance_ B.tuple_ (by decide +kernel) (by decide) (d_var 1)))))) (dss_one
    (ds_ret (PD.x d_bl))) dss_nil) (dss_one
    (ds_ret (PD.x (d_and (d_eq hr.units (d_len B.len_ (d_var 0)) (d_len B.len_ (d_var 1))) (d_one (d_all B.all_ (d_lc (own := [("_law_one", 2), ("_law_other", 3)]) sc__law_same.nd (blkD (N := ["_law_found", "_law_due", "_law_one", "_law_other"]) (sc := defScope s__law_same) (by decide +kernel)) (by decide) (di_zip B.zip_ (da_cons (d_var 0) (da_cons (d_var 1) da_nil))) (fun _ _ _ _ _ => (dg_tup (n := 2) (dgs_cons (dg_name (i := 2) sc__law_same.nd) (dgs_cons (dg_name (i := 3) sc__law_same.nd) dgs_nil)) (gl_cons gx_name (gl_cons gx_name gl_nil)))) (fun _ _ _ _ _ => dts_nil) (fun _ _ _ _ _ => (d_call K__law_same (hr.mono (by omega)) (da_cons (d_var 2) (da_cons (d_var 3) da_nil)))))))))))) dss_nil) (dss_cons
    (ds_if (PDW.pt (dw_or (dt_ne hr.units (d_isi (T := .bl) B.isinstance_ B.bool_ (by decide +kernel) (by decide) (d_var 0)) (d_isi (T := .bl) B.isinstance_ B.bool_ (by decide +kernel) (by decide) (d_var 1))) (dw_or1 (dt_ne hr.units (d_isi (T := .int) B.isinstance_ B.int_ (by decide +kernel) (by decide) (d_var 0)) (d_isi (T := .int) B.isinstance_ B.int_ (by decide +kernel) (by decide) (d_var 1)))))) (dss_one
    (ds_ret (PD.x d_bl))) dss_nil) (dss_one
    (ds_ret (PD.x (d_and (d_eq hr.units (d_isi (T := .str) B.isinstance_ B.str_ (by decide +kernel) (by decide) (d_var 0)) (d_isi (T := .str) B.isinstance_ B.str_ (by decide +kernel) (by decide) (d_var 1))) (d_one (d_eq hr.units (d_var 0) (d_var 1)))))))))))) ?hu
  case len => rintro ds P ⟨d, rfl, _⟩; rfl
  case hu =>
    rintro ds P ⟨d, rfl, hd, k⟩
    have seq : ∀ {xs : List D} {d : D}, (d = .lst xs ∨ d = .tup xs) → simN n d = true → U_law_same_2_t_1 (F__law_same n) ⟨fun _ => P (.sh .non), fun r _ => P r, fun _ => False, fun _ => False⟩ [.sh d, .sh d, .un, .un] := fun {xs d} h hs => by
      obtain ⟨m, rfl, hl, hm⟩ : ∃ m, n = m + 1 ∧ xs.length ≤ 100000 ∧ ∀ x ∈ xs, simN m x = true := by
        rcases h with rfl | rfl
        · exact simN_lst hs
        · exact simN_tup hs
      exact same_list h hl (fun x hx P p => ⟨x, rfl, hm x hx, p⟩) fun e => k
    have nod : ∀ {d : D}, simN n d = true → flatD d = false → ∃ xs, d = .lst xs ∨ d = .tup xs := fun {d} h f => by
      cases d with
      | lst xs => exact ⟨xs, .inl rfl⟩
      | tup xs => exact ⟨xs, .inr rfl⟩
      | dk _ => cases n <;> cases h
      | obj _ _ => cases n <;> cases h
      | fn _ => cases n <;> cases h
      | exc _ _ => cases n <;> cases h
      | tabl _ _ => cases n <;> cases h
      | _ => cases f
    cases d with
    | non =>
      unfold U_law_same_0 U_law_same_0_t_0
      walk_at "dl"
      exact k
    | lst xs =>
      unfold U_law_same_0 U_law_same_1 U_law_same_2 U_law_same_2_t_0
      walk_at "dl"
      exact seq (.inl rfl) hd
    | tup xs =>
      unfold U_law_same_0 U_law_same_1 U_law_same_2 U_law_same_2_t_0
      walk_at "dl"
      exact seq (.inr rfl) hd
    | dk _ => cases n <;> cases hd
    | obj _ _ => cases n <;> cases hd
    | fn _ => cases n <;> cases hd
    | exc _ _ => cases n <;> cases hd
    | tabl _ _ => cases n <;> cases hd
    | bl c =>
      unfold U_law_same_0 U_law_same_1 U_law_same_2 U_law_same_3 U_law_same_4
      walk_at "dl"
      simpa using k
    | int c =>
      unfold U_law_same_0 U_law_same_1 U_law_same_2 U_law_same_3 U_law_same_4
      walk_at "dl"
      simpa using k
    | str c =>
      unfold U_law_same_0 U_law_same_1 U_law_same_2 U_law_same_3 U_law_same_4
      walk_at "dl"
      simpa using k
theorem ok__law_same (B : Bt mg) (Hr : Here K mg "_law_same" s__law_same ["_law_found", "_law_due"]) : ∀ n, Known P w K mg base "_law_same" n ["_law_found", "_law_due"] (spN K (F__law_same n))
  | 0 => known_none Hr
  | n + 1 => same_step B (ok__law_same B Hr n) Hr
def negW (l : List Nat) : Bool := decide (l.take 1 = [45])
def letW (l : List Nat) : List Nat := if negW l = true then l.drop 1 else l
def wordW (b : Bool) (l : List Nat) : List Nat := if b = true then 45 :: l else l
theorem letW_len (l : List Nat) : (letW l).length ≤ l.length := by
  unfold letW
  split
  · rw [List.length_drop]; omega
  · exact Nat.le_refl _
/-! strings: letters are pairs of bits -/
abbrev Lt := Bool × Bool
def cc : Lt → Nat
  | (false, false) => 49
  | (true, false) => 88
  | (false, true) => 90
  | (true, true) => 87
theorem cc_inj {a c : Lt} (h : cc a = cc c) : a = c := by
  rcases a with ⟨_ | _, _ | _⟩ <;> rcases c with ⟨_ | _, _ | _⟩ <;> first | rfl | (exact absurd h (by decide))
theorem ccs_inj {a c : List Lt} (h : a.map cc = c.map cc) : a = c := by
  induction a generalizing c with
  | nil => cases c with | nil => rfl | cons _ _ => cases h
  | cons x a ih => cases c with
    | nil => cases h
    | cons y c => injection h with h1 h2; rw [cc_inj h1, ih h2]
theorem cc_lo (a : Lt) : 49 ≤ cc a ∧ cc a ≤ 90 := by rcases a with ⟨_ | _, _ | _⟩ <;> decide
abbrev Sg := Bool × List Lt
def wdW (b : Bool) (l : List Nat) : List Nat := if b = true then 45 :: l else l
def txt (a : Sg) : List Nat := wdW a.1 (a.2.map cc)
theorem txt_len (a : Sg) : (txt a).length ≤ a.2.length + 1 := by
  unfold txt wdW
  split <;> simp
theorem take1_txt (a : Sg) : decide ((txt a).take 1 = [45]) = a.1 := by
  obtain ⟨s, ls⟩ := a
  cases s with
  | true => rfl
  | false => cases ls with
    | nil => rfl
    | cons l ls =>
      have := (cc_lo l).1
      show decide ([cc l] = [45]) = false
      rw [decide_eq_false_iff_not]
      intro h
      injection h with h _
      omega
theorem body_txt (a : Sg) : (if a.1 = true then (txt a).drop 1 else txt a) = a.2.map cc := by
  obtain ⟨s, ls⟩ := a
  cases s <;> rfl
theorem txt_inj {a c : Sg} (h : txt a = txt c) : a = c := by
  have h1 : a.1 = c.1 := by rw [← take1_txt a, ← take1_txt c, h]
  have h2 : a.2.map cc = c.2.map cc := by rw [← body_txt a, ← body_txt c, h, h1]
  obtain ⟨s, l⟩ := a
  obtain ⟨s', l'⟩ := c
  dsimp only at h1 h2
  rw [h1, ccs_inj h2]
theorem txt_ok (a : Sg) : ∀ c ∈ txt a, c < 1114112 := by
  intro c hc
  unfold txt wdW at hc
  have h : ∀ c ∈ a.2.map cc, c < 1114112 := fun c hc => by
    obtain ⟨l, _, rfl⟩ := List.mem_map.mp hc
    have := (cc_lo l).2
    omega
  split at hc
  · rcases List.mem_cons.mp hc with rfl | hc
    · decide
    · exact h c hc
  · exact h c hc
/-- the product -/
def xl (a c : Lt) : Lt := (a.1 ^^ c.1, a.2 ^^ c.2)
def xo (a c : List Lt) : List Lt := List.zipWith xl a c
def par : List Lt → List Lt → Bool
  | l :: ls, r :: rs => (l.2 && r.1) ^^ par ls rs
  | _, _ => false
def mulS (a c : Sg) : Sg := ((a.1 ^^ c.1) ^^ par a.2 c.2, xo a.2 c.2)
def oneS (n : Nat) : Sg := (false, List.replicate n (false, false))
theorem xo_len {n : Nat} {a c : List Lt} (h : a.length = n) (h' : c.length = n) : (xo a c).length = n := by unfold xo; simp [h, h']
theorem one_txt (n : Nat) : txt (oneS n) = List.replicate n 49 := by
  show (List.replicate n ((false, false) : Lt)).map cc = _
  rw [List.map_replicate]; rfl
theorem one_mul : ∀ {ls : List Lt} {n : Nat}, ls.length = n → xo (List.replicate n (false, false)) ls = ls ∧ par (List.replicate n (false, false)) ls = false
  | [], n, h => by cases n with | zero => exact ⟨rfl, rfl⟩ | succ n => cases h
  | l :: ls, n, h => by
    cases n with
    | zero => cases h
    | succ n =>
      obtain ⟨h1, h2⟩ := one_mul (ls := ls) (n := n) (by simpa using h)
      rw [List.replicate_succ]
      constructor
      · show xl (false, false) l :: xo _ ls = _
        rw [h1]; unfold xl; simp
      · show ((false && l.1) ^^ par _ ls) = false
        rw [h2]; rfl
theorem mul_one' : ∀ {ls : List Lt} {n : Nat}, ls.length = n → xo ls (List.replicate n (false, false)) = ls ∧ par ls (List.replicate n (false, false)) = false
  | [], n, h => by cases n with | zero => exact ⟨rfl, rfl⟩ | succ n => cases h
  | l :: ls, n, h => by
    cases n with
    | zero => cases h
    | succ n =>
      obtain ⟨h1, h2⟩ := mul_one' (ls := ls) (n := n) (by simpa using h)
      rw [List.replicate_succ]
      constructor
      · show xl l (false, false) :: xo ls _ = _
        rw [h1]; unfold xl; simp
      · show ((l.2 && false) ^^ par ls _) = false
        rw [h2]; simp
theorem oneS_mul {a : Sg} {n : Nat} (h : a.2.length = n) : mulS (oneS n) a = a := by
  obtain ⟨h1, h2⟩ := one_mul h
  unfold mulS oneS
  dsimp only
  rw [h1, h2]; simp
theorem mul_oneS {a : Sg} {n : Nat} (h : a.2.length = n) : mulS a (oneS n) = a := by
  obtain ⟨h1, h2⟩ := mul_one' h
  unfold mulS oneS
  dsimp only
  rw [h1, h2]; simp
theorem mulS_len {a c : Sg} {n : Nat} (h : a.2.length = n) (h' : c.2.length = n) : (mulS a c).2.length = n := xo_len h h'
theorem xo_comm : ∀ a c : List Lt, xo a c = xo c a
  | [], [] => rfl
  | [], _ :: _ => rfl
  | _ :: _, [] => rfl
  | a :: l, c :: m => by
    show xl a c :: xo l m = xl c a :: xo m l
    rw [xo_comm l m]
    unfold xl
    rw [Bool.xor_comm a.1, Bool.xor_comm a.2]
theorem xo_assoc : ∀ {n : Nat} {a c d : List Lt}, a.length = n → c.length = n → d.length = n → xo (xo a c) d = xo a (xo c d) ∧ (par (xo a c) d = (par a d ^^ par c d)) ∧ (par a (xo c d) = (par a c ^^ par a d))
  | 0, [], [], [], _, _, _ => ⟨rfl, rfl, rfl⟩
  | n + 1, x :: a, y :: c, z :: d, h1, h2, h3 => by
    obtain ⟨q1, q2, q3⟩ := xo_assoc (n := n) (a := a) (c := c) (d := d) (by simpa using h1) (by simpa using h2) (by simpa using h3)
    refine ⟨?_, ?_, ?_⟩
    · show xl (xl x y) z :: xo (xo a c) d = xl x (xl y z) :: xo a (xo c d)
      rw [q1]; unfold xl; simp
    · show (((x.2 ^^ y.2) && z.1) ^^ par (xo a c) d) = (((x.2 && z.1) ^^ par a d) ^^ ((y.2 && z.1) ^^ par c d))
      rw [q2]
      cases x.2 <;> cases y.2 <;> cases z.1 <;> cases par a d <;> cases par c d <;> rfl
    · show ((x.2 && (y.1 ^^ z.1)) ^^ par a (xo c d)) = (((x.2 && y.1) ^^ par a c) ^^ ((x.2 && z.1) ^^ par a d))
      rw [q3]
      cases x.2 <;> cases y.1 <;> cases z.1 <;> cases par a c <;> cases par a d <;> rfl
theorem mulS_assoc {n : Nat} {a c d : Sg} (h1 : a.2.length = n) (h2 : c.2.length = n) (h3 : d.2.length = n) : mulS (mulS a c) d = mulS a (mulS c d) := by
  obtain ⟨q1, q2, q3⟩ := xo_assoc h1 h2 h3
  unfold mulS
  dsimp only
  rw [q1, q2, q3]
  cases a.1 <;> cases c.1 <;> cases d.1 <;> cases par a.2 c.2 <;> cases par a.2 d.2 <;> cases par c.2 d.2 <;> rfl
/-- two strings commute -/
theorem comm_iff (a c : Sg) : decide (mulS a c = mulS c a) = !(par a.2 c.2 ^^ par c.2 a.2) := by
  have e : (mulS a c = mulS c a) ↔ par a.2 c.2 = par c.2 a.2 := by
    unfold mulS
    rw [xo_comm a.2 c.2, Bool.xor_comm a.1 c.1]
    constructor
    · intro h
      injection h with h _
      revert h
      cases c.1 <;> cases a.1 <;> cases par a.2 c.2 <;> cases par c.2 a.2 <;> decide
    · intro h; rw [h]
  rw [decide_eq_decide.mpr e]
  have : ∀ p q : Bool, decide (p = q) = !(p ^^ q) := by decide
  exact this _ _
theorem comm_mul {n : Nat} {a c d : Sg} (h1 : a.2.length = n) (h2 : c.2.length = n) (h3 : d.2.length = n) : decide (mulS a (mulS c d) = mulS (mulS c d) a) = (decide (mulS a c = mulS c a) == decide (mulS a d = mulS d a)) := by
  rw [comm_iff, comm_iff, comm_iff]
  obtain ⟨_, _, q3⟩ := xo_assoc h1 h2 h3
  obtain ⟨_, q2, _⟩ := xo_assoc h2 h3 h1
  show (!(par a.2 (xo c.2 d.2) ^^ par (xo c.2 d.2) a.2)) = _
  rw [q2, q3]
  cases par a.2 c.2 <;> cases par a.2 d.2 <;> cases par c.2 a.2 <;> cases par d.2 a.2 <;> rfl
theorem sq_xo : ∀ a : List Lt, xo a a = List.replicate a.length (false, false)
  | [] => rfl
  | x :: a => by
    show xl x x :: xo a a = _
    rw [sq_xo a]
    unfold xl
    rw [Bool.xor_self, Bool.xor_self]; rfl
theorem sq_par : ∀ a : List Lt, par a a = decide (((a.map cc).count 87 : Nat) % 2 = 1)
  | [] => rfl
  | x :: a => by
    show ((x.2 && x.1) ^^ par a a) = _
    rw [sq_par a, List.map_cons, List.count_cons]
    rcases x with ⟨_ | _, _ | _⟩
    · simp [cc]
    · simp [cc]
    · simp [cc]
    · simp only [cc, Bool.and_self, beq_self_eq_true, if_true]
      rcases Nat.mod_two_eq_zero_or_one ((a.map cc).count 87) with h | h
      · rw [h, show ((a.map cc).count 87 + 1) % 2 = 1 by omega]; rfl
      · rw [h, show ((a.map cc).count 87 + 1) % 2 = 0 by omega]; rfl
theorem sq_mul (a : Sg) : mulS a a = (decide (((a.2.map cc).count 87 : Nat) % 2 = 1), List.replicate a.2.length (false, false)) := by
  unfold mulS
  rw [sq_xo, sq_par, Bool.xor_self, Bool.false_xor]
theorem cnt_txt (a : Sg) : (txt a).count 87 = (a.2.map cc).count 87 := by
  unfold txt wdW
  split
  · rw [List.count_cons]; simp
  · rfl
/-- a square times a square is 1 -/
theorem sq_sq {a : Sg} {n : Nat} (h : a.2.length = n) : mulS (mulS (mulS a a) a) a = oneS n := by
  have hs : (mulS a a).2.length = n := mulS_len h h
  rw [mulS_assoc hs h h, sq_mul a, h]
  obtain ⟨h1, h2⟩ := one_mul (ls := List.replicate n ((false, false) : Lt)) (n := n) (by simp)
  unfold mulS oneS
  dsimp only
  rw [h1, h2]; simp
def prodS (n : Nat) (as : List Sg) : Sg := as.foldl mulS (oneS n)
theorem prodS_len {n : Nat} : ∀ {as : List Sg} {x : Sg}, x.2.length = n → (∀ a ∈ as, a.2.length = n) → (as.foldl mulS x).2.length = n
  | [], _, h, _ => h
  | a :: as, x, h, k => prodS_len (as := as) (mulS_len h (k a List.mem_cons_self)) fun c hc => k c (List.mem_cons_of_mem _ hc)
def F__law_body : FS := fun ds P => ∃ l : List Nat, ds = [.str (S l)] ∧ l.length ≤ 1000000 ∧ P (.sh (.str (S (letW l))))
def U_law_body_0 : DS := (uRet (uX (uIfE (uTest (uBin fEq (uSl (uVar 0) uNo (uPart (uC (.int 1)))) (uC (.str "-")))) (uSl (uVar 0) (uPart (uC (.int 1))) uNo) (uVar 0))))
theorem ok__law_body (B : Bt mg)  (Hr : Here K mg "_law_body" s__law_body ["_law_text"]) : Known P w K mg base "_law_body" 1 ["_law_text"] (spN K F__law_body) := by
  obtain ⟨f, fd, F, hm, hbi⟩ := Hr.ex
  refine fn_data (u := U_law_body_0) F hm hbi sc__law_body ?len (fun cdv A outer s H E hr => (dss_one
    (ds_ret (PD.x (d_if (dt_eq hr.units (d_slice (d_var 0) do_none (do_some d_int)) d_str) (d_slice (d_var 0) (do_some d_int) do_none) (d_var 0)))))) ?hu
  case len => rintro ds P ⟨l, rfl, _⟩; rfl
  case hu =>
    rintro ds P ⟨l, rfl, hl, k⟩
    have e : @Eq Str "-" (S [45]) := rfl
    unfold U_law_body_0
    walk_at "dl"
    rw [cutS_to1, e, decS]
    refine ⟨by rw [S_len]; exact hl, ?_⟩
    unfold letW negW at k
    refine ite_dec (fun h => ?_) (fun h => ?_)
    · rw [decide_eq_true h] at k
      walk_at "dl"
      refine ⟨by rw [S_len]; exact hl, ?_⟩
      rw [cutS_from1]
      exact k
    · rw [decide_eq_false h] at k
      walk_at "dl"
      exact k
def F__law_signed : FS := fun ds P => ∃ (i : Int) (l : List Nat), ds = [.int i, .str (S l)] ∧ l.length ≤ 900000 ∧ P (.sh (.str (S (wordW (decide (i % 2 = 1)) l))))
def U_law_signed_0 : DS := (uRet (uX (uBin fAdd (uIfE (uTest (uBin fEq (uBin fMod (uVar 0) (uC (.int 2))) (uC (.int 1)))) (uC (.str "-")) (uC (.str ""))) (uVar 1))))
theorem ok__law_signed (B : Bt mg)  (Hr : Here K mg "_law_signed" s__law_signed ["_law_mturned", "_law_body_here"]) : Known P w K mg base "_law_signed" 1 ["_law_mturned", "_law_body_here"] (spN K F__law_signed) := by
  obtain ⟨f, fd, F, hm, hbi⟩ := Hr.ex
  refine fn_data (u := U_law_signed_0) F hm hbi sc__law_signed ?len (fun cdv A outer s H E hr => (dss_one
    (ds_ret (PD.x (d_add (d_if (dt_eq hr.units (d_mod (d_var 0) d_int) d_int) d_str d_str) (d_var 1)))))) ?hu
  case len => rintro ds P ⟨c, l, rfl, _⟩; rfl
  case hu =>
    rintro ds P ⟨i, l, rfl, hl, k⟩
    unfold U_law_signed_0
    walk_at "dl"
    refine ⟨by decide, ?_⟩
    refine ite_dec (fun h => ?_) (fun h => ?_)
    · have e1 : @Eq Str "-" (S [45]) := rfl
      rw [decide_eq_true h] at k
      walk_at "dl"
      rw [e1, S_app]
      refine ⟨by rw [S_len, S_len]; simp; omega, k⟩
    · have e1 : @Eq Str "" (S []) := rfl
      rw [decide_eq_false h] at k
      walk_at "dl"
      rw [e1, S_app]
      refine ⟨by rw [S_len, S_len]; simp; omega, k⟩
theorem for_find {α : Type} {ui : DI} {ug : DG} {ub : DS} {DD : DEnds} {e : List Sl} (ys : List α) (inj : α → D) (bad : α → Bool) (V : List Sl → Prop) (hi : ∀ Q : List D → Prop, Q (ys.map inj) → ui e Q) (h0 : V e)
    (hg : ∀ y ∈ ys, bad y = false → ∀ (N : List Sl → Prop), (∀ x, V x → N x) → ∀ e', V e' → ug (inj y) e' fun e2 => ub { DD with nx := N, ct := N, bk := DD.nx } e2)
    (hb : ∀ y ∈ ys, bad y = true → ys.find? bad = some y → ∀ (N : List Sl → Prop), ∀ e', V e' → ug (inj y) e' fun e2 => ub { DD with nx := N, ct := N, bk := DD.nx } e2)
    (hd : ys.find? bad = none → ∀ e', V e' → DD.nx e') : uFor ui ug ub DD e := by
  refine for_pre ys inj (fun pre x => (∀ y ∈ pre, bad y = false) ∧ V x) hi ⟨by simp, h0⟩ ?_ ?_
  · rintro pre y post hp e' ⟨hpre, hV⟩
    have hm : y ∈ ys := by rw [hp]; simp
    cases hy : bad y with
    | false =>
      refine hg y hm hy _ (fun x hx => ⟨fun z hz => ?_, hx⟩) e' hV
      rcases List.mem_append.mp hz with hz | hz
      · exact hpre z hz
      · rw [List.mem_singleton.mp hz]; exact hy
    | true =>
      refine hb y hm hy ?_ _ e' hV
      rw [hp, List.find?_append, List.find?_eq_none.mpr fun z hz => by rw [hpre z hz]; decide, List.find?_cons, hy]
      rfl
  · rintro e' ⟨hpre, hV⟩
    exact hd (List.find?_eq_none.mpr fun z hz => by rw [hpre z hz]; decide) e' hV
-- §SPLIT
def strD (a : Sg) : D := .str (S (txt a))
def SgB (a : Sg) : Prop := a.2.length ≤ 100000
theorem SgB.len {a : Sg} (h : SgB a) : (txt a).length ≤ 1000000 := by
  have := txt_len a
  unfold SgB at h
  omega
theorem lt_in (l : Lt) : cc l ∈ [49, 88, 90, 87] := by rcases l with ⟨_ | _, _ | _⟩ <;> decide
/-- a text that is no string -/
def badS (l : List Nat) : Bool := !(letW l).all fun c => decide (c ∈ [49, 88, 90, 87])
theorem letW_txt (a : Sg) : letW (txt a) = a.2.map cc := by unfold letW negW; rw [take1_txt]; exact body_txt a
theorem good_txt (a : Sg) : badS (txt a) = false := by
  unfold badS
  rw [letW_txt, Bool.not_eq_false', List.all_eq_true]
  intro c hc
  obtain ⟨l, _, rfl⟩ := List.mem_map.mp hc
  exact decide_eq_true (lt_in l)
theorem txt_of {l : List Nat} (h : badS l = false) : ∃ a : Sg, l = txt a := by
  unfold badS at h
  rw [Bool.not_eq_false', List.all_eq_true] at h
  have key : ∀ m : List Nat, (∀ c ∈ m, decide (c ∈ [49, 88, 90, 87]) = true) → ∃ ls : List Lt, m = ls.map cc := by
    intro m
    induction m with
    | nil => exact fun _ => ⟨[], rfl⟩
    | cons c m ih =>
      intro h
      obtain ⟨ls, rfl⟩ := ih fun x hx => h x (by simp [hx])
      have hc := of_decide_eq_true (h c (by simp))
      simp only [List.mem_cons, List.not_mem_nil, or_false] at hc
      rcases hc with rfl | rfl | rfl | rfl
      · exact ⟨(false, false) :: ls, rfl⟩
      · exact ⟨(true, false) :: ls, rfl⟩
      · exact ⟨(false, true) :: ls, rfl⟩
      · exact ⟨(true, true) :: ls, rfl⟩
  obtain ⟨ls, e⟩ := key _ h
  unfold letW at e
  cases hn : negW l with
  | false =>
    rw [hn] at e
    exact ⟨(false, ls), e⟩
  | true =>
    rw [hn] at e
    refine ⟨(true, ls), ?_⟩
    have h1 : l.take 1 = [45] := of_decide_eq_true hn
    show l = 45 :: ls.map cc
    rw [← e]
    cases l with
    | nil => cases h1
    | cons c l => injection h1 with h2; subst h2; rfl
theorem bodies_txt {ls : List (List Nat)} (h : ∀ l ∈ ls, badS l = false) : ∃ as : List Sg, ls = as.map txt := by
  induction ls with
  | nil => exact ⟨[], rfl⟩
  | cons l ls ih =>
    obtain ⟨as, rfl⟩ := ih fun x hx => h x (by simp [hx])
    obtain ⟨a, rfl⟩ := txt_of (h l (by simp))
    exact ⟨a :: as, rfl⟩
def xStr (e : Addr) (l : List Nat) : XD := (e, [("code", .str "invalidstring"), ("value", .str (S l))])
def xLen (e : Addr) : XD := (e, [("code", .str "lengthmismatch")])
def F_check_string (e1 e2 : Addr) : FSX := fun ds P XP => ∃ l : List Nat, ds = [.str (S l)] ∧ l.length ≤ 1000000 ∧ (badS l = false → P (.sh .non)) ∧ (badS l = true → XP (xStr e1 l))
def U_check_string_1_t_0 (e_InvalidString : Addr) (e_LengthMismatch : Addr) (xp : XD → Prop) : DS := (uRaise xp e_InvalidString (fE2 "value" "code" "invalidstring") (uCons (uVar 0) uNil))
def U_check_string_1 (e_InvalidString : Addr) (e_LengthMismatch : Addr) (xp : XD → Prop) : DS := (uIf (uNot (uTru (uB fAll (uLc (uItS (uVar 1)) (gNm 2) uYes (uBin (fInU false) (uVar 2) (uC (.str "1XZW"))) [2])))) (U_check_string_1_t_0 e_InvalidString e_LengthMismatch xp) uNext)
def U_check_string_0 (e_InvalidString : Addr) (e_LengthMismatch : Addr) (xp : XD → Prop) : DS := uSeq (uSet 1 (uX (uIfE (uTest (uBin fEq (uSl (uVar 0) uNo (uPart (uC (.int 1)))) (uC (.str "-")))) (uSl (uVar 0) (uPart (uC (.int 1))) uNo) (uVar 0)))) (U_check_string_1 e_InvalidString e_LengthMismatch xp)
theorem letters_const : @Eq Str "1XZW" (S [49, 88, 90, 87]) := rfl
theorem minus_const : @Eq Str "-" (S [45]) := rfl
theorem signs_cc (ls : List Lt) : DL.signs (S (ls.map cc)) = ls.map fun l => D.str (S [cc l]) := by
  rw [signs_S]; unfold chs; rw [List.map_map]; rfl
def bi (c : Bool) : Int := if c = true then 1 else 0
theorem dash_txt (a : Sg) : decide (cutS (S (txt a)) none (some 1) = Str.ofString "-") = a.1 := by
  rw [cutS_to1, show Str.ofString "-" = S [45] from rfl, decS]
  exact take1_txt a
theorem ok_check_string (B : Bt mg) {e_InvalidString e_LengthMismatch : Addr} (E_InvalidString : KnownE P w K mg base "InvalidString" e_InvalidString 1 ["self", "value"] (fE2 "value" "code" "invalidstring"))  (Hr : Here K mg "check_string" s_check_string ["text"]) : KnownX P w K mg base "check_string" 3 ["text"] (spX K (F_check_string e_InvalidString e_LengthMismatch)) := by
  obtain ⟨f, fd, F, hm, hbi⟩ := Hr.ex
  refine ⟨f, fd, fnOk_X (u := fun xp => (U_check_string_0 e_InvalidString e_LengthMismatch xp)) F sc_check_string ?len (fun xp cdv A outer s H E hr tk hp => (dss_cons
    (ds_set (i := 1) (PD.x (d_if (dt_eq hr.units (d_slice (d_var 0) do_none (do_some d_int)) d_str) (d_slice (d_var 0) (do_some d_int) do_none) (d_var 0))) sc_check_string.nd) (dss_one
    (ds_if (dt_not (dt_tru (d_all B.all_ (d_lc (own := [("letter", 2)]) sc_check_string.nd (blkD (N := ["text", "body", "letter"]) (sc := defScope s_check_string) (by decide +kernel)) (by decide) (di_str (d_var 1)) (fun _ _ _ _ _ => (dg_name (i := 2) sc_check_string.nd)) (fun _ _ _ _ _ => dts_nil) (fun _ _ _ _ _ => (d_inU (hu_of hr) (d_var 2) (d_globE (d := .str "1XZW") B.g_LETTERS fun _ => rfl))))))) (dss_one
    (ds_raise tk E_InvalidString (hr.mono (by omega)) (da_cons (d_var 0) da_nil))) dss_nil)))) ?hu, hm, F.kp, hbi⟩
  case len => rintro ds P XP ⟨l, rfl, _⟩; rfl
  case hu =>
    rintro ds P XP ⟨l, rfl, hl, k1, k2⟩
    unfold U_check_string_0 U_check_string_1 U_check_string_1_t_0
    walk_at "dm"
    rw [cutS_to1, show Str.ofString "-" = S [45] from rfl, decS, show decide (l.take 1 = [45]) = negW l from rfl]
    refine ⟨by rw [S_len]; exact hl, ?_⟩
    have main : ∀ e : List Sl, e = [.sh (.str (S l)), .sh (.str (S (letW l))), .un] → uLc (uItS (uVar 1)) (gNm 2) uYes (uBin (fInU false) (uVar 2) (uC (.str "1XZW"))) [2] e fun r => fAll r.look fun r => truD r.look fun c => if (!c) = true then uRaise XP e_InvalidString (fE2 "value" "code" "invalidstring") (uCons (uVar 0) uNil) ⟨fun _ => P (.sh .non), fun r _ => P r, fun _ => False, fun _ => False⟩ e else P (.sh .non) := by
      rintro e rfl
      have hlw := letW_len l
      refine lc_map (letW l) (fun c => .str (S [c])) (fun c => .bl (decide (c ∈ [49, 88, 90, 87]))) (fun Q q => ?_) (by omega) (fun c hc S' hS => ?_) ?_
      · show Q (DL.signs (S (letW l)))
        rw [signs_S]
        exact q
      · walk_at "dm"
        exact ⟨c, rfl, hS⟩
      · refine ⟨(letW l).map fun c => decide (c ∈ [49, 88, 90, 87]), by rw [List.map_map]; rfl, ?_⟩
        rw [List.all_map]
        show if badS l = true then _ else _
        cases hb : badS l with
        | false => exact k1 hb
        | true =>
          walk_at "dm"
          exact ⟨by decide, _, rfl, k2 hb⟩
    cases hn : negW l
    · have : letW l = l := by unfold letW; rw [hn]; rfl
      rw [this] at main
      exact main _ rfl
    · have : letW l = l.drop 1 := by unfold letW; rw [hn]; rfl
      rw [this] at main
      refine ⟨by rw [S_len]; exact hl, ?_⟩
      rw [cutS_from1]
      exact main _ rfl
def F_split_sign : FS := fun ds P => ∃ a : Sg, ds = [strD a] ∧ SgB a ∧ P (.sh (.tup [.int (bi a.1), .str (S (a.2.map cc))]))
def U_split_sign_0 : DS := (uRet (uX (uIfE (uTest (uBin fEq (uSl (uVar 0) uNo (uPart (uC (.int 1)))) (uC (.str "-")))) (uTup (uCons (uC (.int 1)) (uCons (uSl (uVar 0) (uPart (uC (.int 1))) uNo) uNil))) (uTup (uCons (uC (.int 0)) (uCons (uVar 0) uNil))))))
theorem ok_split_sign (B : Bt mg)  (Hr : Here K mg "split_sign" s_split_sign ["text"]) : Known P w K mg base "split_sign" 1 ["text"] (spN K F_split_sign) := by
  obtain ⟨f, fd, F, hm, hbi⟩ := Hr.ex
  refine fn_data (u := U_split_sign_0) F hm hbi sc_split_sign ?len (fun cdv A outer s H E hr => (dss_one
    (ds_ret (PD.x (d_if (dt_eq hr.units (d_slice (d_var 0) do_none (do_some d_int)) d_str) (d_tup (da_cons d_int (da_cons (d_slice (d_var 0) (do_some d_int) do_none) da_nil))) (d_tup (da_cons d_int (da_cons (d_var 0) da_nil)))))))) ?hu
  case len => rintro ds P ⟨a, rfl, _⟩; rfl
  case hu =>
    rintro ds P ⟨a, rfl, ha, k⟩
    have hl := ha.len
    unfold U_split_sign_0 strD
    walk_at "dm"
    rw [dash_txt]
    refine ⟨by rw [S_len]; exact hl, ?_⟩
    obtain ⟨s, ls⟩ := a
    cases s
    · exact ⟨by decide, k⟩
    · refine ⟨by rw [S_len]; exact hl, ?_⟩
      rw [cutS_from1]
      exact ⟨by decide, k⟩
def F_joined : FS := fun ds P => ∃ (i : Int) (l : List Nat), ds = [.int i, .str (S l)] ∧ l.length ≤ 900000 ∧ P (.sh (.str (S (wdW (decide (i % 2 = 1)) l))))
def U_joined_0 : DS := (uRet (uX (uIfE (uTest (uBin fEq (uBin fMod (uVar 0) (uC (.int 2))) (uC (.int 1)))) (uBin fAdd (uC (.str "-")) (uVar 1)) (uVar 1))))
theorem ok_joined (B : Bt mg)  (Hr : Here K mg "joined" s_joined ["sign", "letters"]) : Known P w K mg base "joined" 1 ["sign", "letters"] (spN K F_joined) := by
  obtain ⟨f, fd, F, hm, hbi⟩ := Hr.ex
  refine fn_data (u := U_joined_0) F hm hbi sc_joined ?len (fun cdv A outer s H E hr => (dss_one
    (ds_ret (PD.x (d_if (dt_eq hr.units (d_mod (d_var 0) d_int) d_int) (d_add d_str (d_var 1)) (d_var 1)))))) ?hu
  case len => rintro ds P ⟨c, l, rfl, _⟩; rfl
  case hu =>
    rintro ds P ⟨i, l, rfl, hl, k⟩
    unfold U_joined_0
    walk_at "dm"
    refine ⟨by decide, ?_⟩
    by_cases h : i % 2 = 1
    · rw [decide_eq_true h] at k ⊢
      rw [if_pos rfl, show Str.ofString "-" = S [45] from rfl, S_app]
      exact ⟨by rw [S_len, S_len]; simp; omega, k⟩
    · rw [decide_eq_false h] at k ⊢
      exact k
def F_identity : FS := fun ds P => ∃ n : Nat, ds = [.int (n : Int)] ∧ n ≤ 100000 ∧ P (.sh (.str (S (List.replicate n 49))))
def U_identity_0 : DS := (uRet (uX (uBin fMulS (uC (.str "1")) (uVar 0))))
theorem ok_identity (B : Bt mg)  (Hr : Here K mg "identity" s_identity ["size"]) : Known P w K mg base "identity" 1 ["size"] (spN K F_identity) := by
  obtain ⟨f, fd, F, hm, hbi⟩ := Hr.ex
  refine fn_data (u := U_identity_0) F hm hbi sc_identity ?len (fun cdv A outer s H E hr => (dss_one
    (ds_ret (PD.x (d_mulS d_str (d_var 0)))))) ?hu
  case len => rintro ds P ⟨n, rfl, _⟩; rfl
  case hu =>
    rintro ds P ⟨n, rfl, hn, k⟩
    unfold U_identity_0
    walk_at "dm"
    exact ⟨49, n, rfl, rfl, hn, k⟩
/-- times: what has been counted -/
def cntZ (z : List (Lt × Lt)) : Int := (z.map fun p => bi p.1.2 * bi p.2.1).sum
theorem cntZ_snoc (z : List (Lt × Lt)) (p : Lt × Lt) : cntZ (z ++ [p]) = cntZ z + bi p.1.2 * bi p.2.1 := by unfold cntZ; simp
theorem bi_xor (a c : Bool) : (bi a + bi c) % 2 = bi (a ^^ c) := by cases a <;> cases c <;> decide
theorem bi_and (a c : Bool) : bi a * bi c = bi (a && c) := by cases a <;> cases c <;> decide
theorem bi_dec (a : Bool) : decide (bi a = 1) = a := by cases a <;> decide
theorem cntZ_par : ∀ (a c : List Lt), cntZ (a.zip c) % 2 = bi (par a c)
  | [], [] => rfl
  | [], _ :: _ => rfl
  | _ :: _, [] => rfl
  | l :: a, r :: c => by
    have ih := cntZ_par a c
    show (bi l.2 * bi r.1 + cntZ (a.zip c)) % 2 = bi ((l.2 && r.1) ^^ par a c)
    rw [bi_and, ← bi_xor, ← ih]
    omega
theorem zips_cc : ∀ a c : List Lt, zipsS (S (a.map cc)) (S (c.map cc)) = (a.zip c).map fun p => D.tup [.str (S [cc p.1]), .str (S [cc p.2])]
  | [], _ => by unfold zipsS; simp [S]
  | _ :: _, [] => by unfold zipsS; simp [S]
  | l :: a, r :: c => by
    have ih := zips_cc a c
    unfold zipsS at ih ⊢
    rw [S_cps, S_cps] at ih ⊢
    show D.tup [.str ⟨#[cc l]⟩, .str ⟨#[cc r]⟩] :: _ = _
    rw [ih]; rfl
theorem xo_zip (a c : List Lt) : xo a c = (a.zip c).map fun p => xl p.1 p.2 := by unfold xo; rw [List.zip_eq_zipWith, List.map_zipWith]
theorem bits_mem (l : Lt) : (S [cc l], D.tup [.int (bi l.1), .int (bi l.2)]) ∈ c_BITS := by
  rcases l with ⟨_ | _, _ | _⟩
  · exact .head _
  · exact .tail _ (.tail _ (.head _))
  · exact .tail _ (.head _)
  · exact .tail _ (.tail _ (.tail _ (.head _)))
theorem from_mem (l r : Lt) : ([(bi l.1 + bi r.1) % 2, (bi l.2 + bi r.2) % 2], D.str (S [cc (xl l r)])) ∈ c_FROM_BITS := by
  rw [bi_xor, bi_xor]
  show ([bi (xl l r).1, bi (xl l r).2], D.str (S [cc (xl l r)])) ∈ c_FROM_BITS
  rcases xl l r with ⟨_ | _, _ | _⟩
  · exact .head _
  · exact .tail _ (.tail _ (.head _))
  · exact .tail _ (.head _)
  · exact .tail _ (.tail _ (.tail _ (.head _)))
theorem sign_all (a c : Sg) : decide ((bi a.1 + bi c.1 + cntZ (a.2.zip c.2)) % 2 = 1) = (mulS a c).1 := by
  have h := cntZ_par a.2 c.2
  have e : (bi a.1 + bi c.1 + cntZ (a.2.zip c.2)) % 2 = bi (mulS a c).1 := by
    show _ = bi ((a.1 ^^ c.1) ^^ par a.2 c.2)
    rw [← bi_xor, ← bi_xor, ← h]
    omega
  rw [e, bi_dec]
theorem cmul_01 {i j : Int} (h : i = 0 ∨ i = 1) (h' : j = 0 ∨ j = 1) : CMul i j := by
  rcases h with rfl | rfl <;> rcases h' with rfl | rfl <;> (unfold CMul; decide)
def F_times : FS := fun ds P => ∃ a c : Sg, ds = [strD a, strD c] ∧ SgB a ∧ SgB c ∧ P (.sh (strD (mulS a c)))
def U_times_3_b_2 : DS := (uSet 6 (uX (uBin fAdd (uVar 6) (uKdT c_FROM_BITS (uTup (uCons (uBin fMod (uBin fAdd (uVar 9) (uVar 11)) (uC (.int 2))) (uCons (uBin fMod (uBin fAdd (uVar 10) (uVar 12)) (uC (.int 2))) uNil)))))))
def U_times_3_b_1 : DS := uSeq (uSet 2 (uX (uBin fAdd (uVar 2) (uBin fMul (uVar 10) (uVar 11))))) U_times_3_b_2
def U_times_3_b_0 : DS := uSeq (uAsg (gTp (gsCons (gTp (gsCons (gNm 9) (gsCons (gNm 10) gsNil))) (gsCons (gTp (gsCons (gNm 11) (gsCons (gNm 12) gsNil))) gsNil))) (uX (uTup (uCons (uKdS c_BITS (uVar 7)) (uCons (uKdS c_BITS (uVar 8)) uNil))))) U_times_3_b_1
def U_times_4 : DS := (uRet (uX (uCall F_joined (uCons (uVar 2) (uCons (uVar 6) uNil)))))
def U_times_3 : DS := uSeq (uFor (uZipS (uCons (uVar 3) (uCons (uVar 5) uNil))) (gTp (gsCons (gNm 7) (gsCons (gNm 8) gsNil))) U_times_3_b_0) U_times_4
def U_times_2 : DS := uSeq (uPar 2 6 false false (uBin fAdd (uVar 2) (uVar 4)) (uC (.str ""))) U_times_3
def U_times_1 : DS := uSeq (uAsg (gTp (gsCons (gNm 4) (gsCons (gNm 5) gsNil))) (uX (uCall F_split_sign (uCons (uVar 1) uNil)))) U_times_2
def U_times_0 : DS := uSeq (uAsg (gTp (gsCons (gNm 2) (gsCons (gNm 3) gsNil))) (uX (uCall F_split_sign (uCons (uVar 0) uNil)))) U_times_1
theorem ok_times (B : Bt mg) (Gd : GdC P K w mg) (K_split_sign : Known P w K mg base "split_sign" 1 ["text"] (spN K F_split_sign)) (K_joined : Known P w K mg base "joined" 1 ["sign", "letters"] (spN K F_joined)) (Hr : Here K mg "times" s_times ["one", "other"]) : Known P w K mg base "times" 2 ["one", "other"] (spN K F_times) := by
  obtain ⟨f, fd, F, hm, hbi⟩ := Hr.ex
  refine fn_data (u := U_times_0) F hm hbi sc_times ?len (fun cdv A outer s H E hr => (dss_cons
    (ds_asg (PD.x (d_call K_split_sign (hr.mono (by omega)) (da_cons (d_var 0) da_nil))) (dg_tup (n := 2) (dgs_cons (dg_name (i := 2) sc_times.nd) (dgs_cons (dg_name (i := 3) sc_times.nd) dgs_nil)) (gl_cons gx_name (gl_cons gx_name gl_nil)))) (dss_cons
    (ds_asg (PD.x (d_call K_split_sign (hr.mono (by omega)) (da_cons (d_var 1) da_nil))) (dg_tup (n := 2) (dgs_cons (dg_name (i := 4) sc_times.nd) (dgs_cons (dg_name (i := 5) sc_times.nd) dgs_nil)) (gl_cons gx_name (gl_cons gx_name gl_nil)))) (dss_cons
    (ds_par (i := 2) (j := 6) false false sc_times.nd (d_add (d_var 2) (d_var 4)) d_str) (dss_cons
    (ds_for (di_zipS B.zip_ (da_cons (d_var 3) (da_cons (d_var 5) da_nil))) (dg_tup (n := 2) (dgs_cons (dg_name (i := 7) sc_times.nd) (dgs_cons (dg_name (i := 8) sc_times.nd) dgs_nil)) (gl_cons gx_name (gl_cons gx_name gl_nil))) (dss_cons
    (ds_asg (PD.x (d_tup (da_cons (d_kdS Gd.d_BITS (d_var 7)) (da_cons (d_kdS Gd.d_BITS (d_var 8)) da_nil)))) (dg_tup (n := 2) (dgs_cons (dg_tup (n := 2) (dgs_cons (dg_name (i := 9) sc_times.nd) (dgs_cons (dg_name (i := 10) sc_times.nd) dgs_nil)) (gl_cons gx_name (gl_cons gx_name gl_nil))) (dgs_cons (dg_tup (n := 2) (dgs_cons (dg_name (i := 11) sc_times.nd) (dgs_cons (dg_name (i := 12) sc_times.nd) dgs_nil)) (gl_cons gx_name (gl_cons gx_name gl_nil))) dgs_nil)) (gl_cons (gx_tup (gxs_cons gx_name (gxs_cons gx_name gxs_nil))) (gl_cons (gx_tup (gxs_cons gx_name (gxs_cons gx_name gxs_nil))) gl_nil)))) (dss_cons
    (ds_set (i := 2) (PD.x (d_add (d_var 2) (d_mul (d_var 10) (d_var 11)))) sc_times.nd) (dss_one
    (ds_set (i := 6) (PD.x (d_add (d_var 6) (d_kdT (hu_of hr) Gd.d_FROM_BITS (d_tup (da_cons (d_mod (d_add (d_var 9) (d_var 11)) d_int) (da_cons (d_mod (d_add (d_var 10) (d_var 12)) d_int) da_nil)))))) sc_times.nd))))) (dss_one
    (ds_ret (PD.x (d_call K_joined (hr.mono (by omega)) (da_cons (d_var 2) (da_cons (d_var 6) da_nil))))))))))) ?hu
  case len => rintro ds P ⟨a, c, rfl, _⟩; rfl
  case hu =>
    rintro ds P ⟨a, c, rfl, ha, hc, k⟩
    unfold U_times_0 U_times_1 U_times_2
    walk_at "dm"
    refine ⟨a, rfl, ha, ?_⟩
    walk_at "dm"
    refine ⟨rfl, c, rfl, hc, ?_⟩
    walk_at "dm"
    refine ⟨rfl, rfl, rfl, ?_⟩
    unfold U_times_3
    walk_at "dm"
    refine for_pre (a.2.zip c.2) (fun p => D.tup [.str (S [cc p.1]), .str (S [cc p.2])]) (fun pre e => ∃ v7 v8 v9 v10 v11 v12, e = [.sh (strD a), .sh (strD c), .sh (.int (bi a.1 + bi c.1 + cntZ pre)), .sh (.str (S (a.2.map cc))), .sh (.int (bi c.1)), .sh (.str (S (c.2.map cc))), .sh (.str (S (pre.map fun p => cc (xl p.1 p.2)))), v7, v8, v9, v10, v11, v12])
      (fun Q q => ?_) ⟨.un, .un, .un, .un, .un, .un, by rw [show cntZ [] = 0 from rfl, Int.add_zero]; rfl⟩ ?_ ?_
    · rw [← zips_cc] at q
      exact q
    · rintro pre p post hp e ⟨v7, v8, v9, v10, v11, v12, rfl⟩
      unfold U_times_3_b_0 U_times_3_b_1 U_times_3_b_2
      walk_at "dm"
      refine ⟨rfl, _, _, rfl, bits_mem p.1, ?_⟩
      walk_at "dm"
      refine ⟨_, _, rfl, bits_mem p.2, ?_⟩
      walk_at "dm"
      refine ⟨by decide, rfl, rfl, rfl, by generalize p.1.2 = x; generalize p.2.1 = y; cases x <;> cases y <;> exact cmul_01 (by decide) (by decide), by decide, by decide, by decide, [_, _], _, rfl, from_mem p.1 p.2, ?_⟩
      walk_at "dm"
      rw [S_app]
      have hpl := congrArg List.length hp
      rw [List.length_zip, List.length_append, List.length_cons] at hpl
      unfold SgB at ha
      rw [cntZ_snoc, List.map_append, ← Int.add_assoc]
      exact ⟨by rw [S_len, S_len, List.length_map]; simp; omega, _, _, _, _, _, _, rfl⟩
    · rintro e ⟨v7, v8, v9, v10, v11, v12, rfl⟩
      unfold U_times_4
      walk_at "dm"
      refine ⟨_, _, rfl, ?_, ?_⟩
      · rw [List.length_map, List.length_zip]
        unfold SgB at ha
        omega
      · rw [sign_all]
        have e : (a.2.zip c.2).map (fun p => cc (xl p.1 p.2)) = (mulS a c).2.map cc := by
          show _ = (xo a.2 c.2).map cc
          rw [xo_zip, List.map_map]; rfl
        rw [e]
        exact k
theorem dist_same (ks : List Key) (k : Key) (h : ∀ x ∈ ks, x = k) : (SM.dist ks).length ≤ 1 := by
  have nd := SM.nodup_dist ks
  have hm : ∀ x ∈ SM.dist ks, x = k := fun x hx => h x (SM.mem_dist.mp hx)
  generalize SM.dist ks = l at nd hm
  match l, nd, hm with
  | [], _, _ => simp
  | [_], _, _ => simp
  | a :: c :: l, nd, hm =>
    have h1 := hm a (by simp)
    have h2 := hm c (by simp)
    rw [List.nodup_cons] at nd
    exact absurd (by rw [h1, h2]; simp) nd.1
def F_multiply (e1 e2 : Addr) : FSX := fun ds P XP => ∃ ls : List (List Nat), ds = [.tup (ls.map fun l => .str (S l))] ∧ ls.length ≤ 1000 ∧ (∀ l ∈ ls, l.length ≤ 1000) ∧
  (∀ l, ls.find? badS = some l → XP (xStr e1 l)) ∧ (∀ as : List Sg, ls = as.map txt → (¬ ∃ n, ∀ a ∈ as, a.2.length = n) → XP (xLen e2)) ∧
  ∀ (as : List Sg) n, ls = as.map txt → (∀ a ∈ as, a.2.length = n) → P (.sh (strD (prodS n as)))
def U_multiply_0_b_0 (e_InvalidString : Addr) (e_LengthMismatch : Addr) (xp : XD → Prop) : DS := (uDrop (uX (uCallX (F_check_string e_InvalidString e_LengthMismatch) xp (uCons (uVar 1) uNil))))
def U_multiply_1_t_0 (e_InvalidString : Addr) (e_LengthMismatch : Addr) (xp : XD → Prop) : DS := (uRaise xp e_LengthMismatch (fE1 "code" "lengthmismatch") uNil)
def U_multiply_3_b_0 (e_InvalidString : Addr) (e_LengthMismatch : Addr) (xp : XD → Prop) : DS := (uSet 2 (uX (uCall F_times (uCons (uVar 2) (uCons (uVar 1) uNil)))))
def U_multiply_4 (e_InvalidString : Addr) (e_LengthMismatch : Addr) (xp : XD → Prop) : DS := (uRet (uX (uVar 2)))
def U_multiply_3 (e_InvalidString : Addr) (e_LengthMismatch : Addr) (xp : XD → Prop) : DS := uSeq (uFor (uItT (uVar 0)) (gNm 1) (U_multiply_3_b_0 e_InvalidString e_LengthMismatch xp)) (U_multiply_4 e_InvalidString e_LengthMismatch xp)
def U_multiply_2 (e_InvalidString : Addr) (e_LengthMismatch : Addr) (xp : XD → Prop) : DS := uSeq (uSet 2 (uX (uIfE (uTest (uBin fGt (uB fLenU (uVar 0)) (uC (.int 0)))) (uCall F_identity (uCons (uB fLenU (uBin fAt (uCall F_split_sign (uCons (uBin fAt (uVar 0) (uC (.int 0))) uNil)) (uC (.int 1)))) uNil)) (uC (.str ""))))) (U_multiply_3 e_InvalidString e_LengthMismatch xp)
def U_multiply_1 (e_InvalidString : Addr) (e_LengthMismatch : Addr) (xp : XD → Prop) : DS := uSeq (uIf (uTest (uBin fGt (uLenSc (uItT (uVar 0)) (gNm 1) uYes (uB fLenU (uBin fAt (uCall F_split_sign (uCons (uVar 1) uNil)) (uC (.int 1)))) [1]) (uC (.int 1)))) (U_multiply_1_t_0 e_InvalidString e_LengthMismatch xp) uNext) (U_multiply_2 e_InvalidString e_LengthMismatch xp)
def U_multiply_0 (e_InvalidString : Addr) (e_LengthMismatch : Addr) (xp : XD → Prop) : DS := uSeq (uFor (uItT (uVar 0)) (gNm 1) (U_multiply_0_b_0 e_InvalidString e_LengthMismatch xp)) (U_multiply_1 e_InvalidString e_LengthMismatch xp)
theorem dist_many {as : List Sg} (h : ¬ ∃ n, ∀ a ∈ as, a.2.length = n) : 2 ≤ (SM.dist (as.map fun a => (.inl (a.2.length : Int) : Key))).length := by
  cases as with
  | nil => exact absurd ⟨0, by simp⟩ h
  | cons a as =>
    have h2 : ∃ c ∈ as, c.2.length ≠ a.2.length := by
      refine Classical.byContradiction fun z => h ⟨a.2.length, fun c hc => ?_⟩
      rcases List.mem_cons.mp hc with rfl | hc
      · rfl
      · exact Classical.byContradiction fun y => z ⟨c, hc, y⟩
    obtain ⟨c, hc, hne⟩ := h2
    have m1 : (.inl (a.2.length : Int) : Key) ∈ SM.dist ((a :: as).map fun a => (.inl (a.2.length : Int) : Key)) := SM.mem_dist.mpr (List.mem_map.mpr ⟨a, by simp, rfl⟩)
    have m2 : (.inl (c.2.length : Int) : Key) ∈ SM.dist ((a :: as).map fun a => (.inl (a.2.length : Int) : Key)) := SM.mem_dist.mpr (List.mem_map.mpr ⟨c, by simp [hc], rfl⟩)
    generalize SM.dist ((a :: as).map fun a => (.inl (a.2.length : Int) : Key)) = l at m1 m2
    match l, m1, m2 with
    | [x], m1, m2 =>
      rw [List.mem_singleton] at m1 m2
      rw [← m1] at m2
      injection m2 with m2
      omega
    | _ :: _ :: _, _, _ => simp
theorem ok_multiply (B : Bt mg) {e_InvalidString e_LengthMismatch : Addr} (E_LengthMismatch : KnownE P w K mg base "LengthMismatch" e_LengthMismatch 1 ["self"] (fE1 "code" "lengthmismatch")) (K_check_string : KnownX P w K mg base "check_string" 3 ["text"] (spX K (F_check_string e_InvalidString e_LengthMismatch))) (K_identity : Known P w K mg base "identity" 1 ["size"] (spN K F_identity)) (K_times : Known P w K mg base "times" 2 ["one", "other"] (spN K F_times)) (K_split_sign : Known P w K mg base "split_sign" 1 ["text"] (spN K F_split_sign)) (Hr : HereS K mg "multiply" s_multiply) : KnownRX P w K mg base "multiply" 4 (spX K (fStarX 0 (F_multiply e_InvalidString e_LengthMismatch))) := by
  obtain ⟨f, fd, F, hm⟩ := Hr.ex
  refine fn_starX (ps := []) (pv := "strings") (u := fun xp => (U_multiply_0 e_InvalidString e_LengthMismatch xp)) F hm sc_multiply (fun kV doc pm an cdv ct us rest hl => match us, rest, hl with | [], [], _ => rfl | [], _ :: _, _ => rfl) (fun xp cdv A outer s H E hr tk hp => (dss_cons
    (ds_for (hp := hp) (di_tup (d_var 0)) (dg_name (i := 1) sc_multiply.nd) (dss_one
    (ds_expr (PD.x (d_callX tk K_check_string (hr.mono (by omega)) (da_cons (d_var 1) da_nil)))))) (dss_cons
    (ds_if (dt_gt (d_lenSc B.len_ (own := [("text", 1)]) sc_multiply.nd (blkD (N := ["strings", "text", "result"]) (sc := defScope s_multiply) (by decide +kernel)) (by decide) (di_tup (d_var 0)) (fun _ _ _ _ _ => (dg_name (i := 1) sc_multiply.nd)) (fun _ _ _ _ _ => dts_nil) (fun _ _ _ _ _ => (d_lenU B.len_ (d_at (hu_of hr) (d_call K_split_sign (hr.mono (by omega)) (da_cons (d_var 1) da_nil)) d_int)))) d_int) (dss_one
    (ds_raise0 tk E_LengthMismatch (hr.mono (by omega)))) dss_nil) (dss_cons
    (ds_set (i := 2) (PD.x (d_if (dt_gt (d_lenU B.len_ (d_var 0)) d_int) (d_call K_identity (hr.mono (by omega)) (da_cons (d_lenU B.len_ (d_at (hu_of hr) (d_call K_split_sign (hr.mono (by omega)) (da_cons (d_at (hu_of hr) (d_var 0) d_int) da_nil)) d_int)) da_nil)) d_str)) sc_multiply.nd) (dss_cons
    (ds_for (hp := hp) (di_tup (d_var 0)) (dg_name (i := 1) sc_multiply.nd) (dss_one
    (ds_set (i := 2) (PD.x (d_call K_times (hr.mono (by omega)) (da_cons (d_var 2) (da_cons (d_var 1) da_nil)))) sc_multiply.nd))) (dss_one
    (ds_ret (PD.x (d_var 2))))))))) ?hu
  case hu =>
    rintro ds P XP ⟨ls, rfl, hl, hb, kx, kl, k⟩
    unfold U_multiply_0
    walk_at "dm"
    refine for_find ls (fun l => .str (S l)) badS (fun e => ∃ v1, e = [.sh (.tup (ls.map fun l => .str (S l))), v1, .un]) (fun Q q => q) ⟨_, rfl⟩ ?_ ?_ ?_
    · rintro l hl hg N hN e ⟨v1, rfl⟩
      unfold U_multiply_0_b_0
      walk_at "dm"
      refine ⟨l, rfl, by have := hb l hl; omega, fun _ => hN _ ⟨_, rfl⟩, fun h => ?_⟩
      rw [hg] at h
      cases h
    · rintro l hl hg hf N e ⟨v1, rfl⟩
      unfold U_multiply_0_b_0
      walk_at "dm"
      refine ⟨l, rfl, by have := hb l hl; omega, fun h => ?_, fun _ => kx l hf⟩
      rw [hg] at h
      cases h
    · rintro hf e ⟨v1, rfl⟩
      obtain ⟨as, rfl⟩ := bodies_txt (ls := ls) fun l hl => by
        have := List.find?_eq_none.mp hf l hl
        simpa using this
      have hal : as.length ≤ 1000 := by rw [List.length_map] at hl; exact hl
      have hB : ∀ a ∈ as, SgB a := fun a ha => by
        have := hb (txt a) (List.mem_map.mpr ⟨a, ha, rfl⟩)
        have h2 : a.2.length ≤ (txt a).length := by unfold txt wdW; split <;> simp
        unfold SgB
        omega
      have es : ((as.map txt).map fun l => D.str (S l)) = as.map strD := by rw [List.map_map]; rfl
      rw [es]
      unfold U_multiply_1 U_multiply_1_t_0
      walk_at "dm"
      unfold uLenSc uSc
      refine lc_map as strD (fun a => .int (a.2.length : Int)) (fun Q q => ⟨by rw [List.length_map]; unfold scanBound; omega, q⟩) (by omega) (fun a h S hS => ?_) ?_
      · unfold uKey
        walk_at "dm"
        refine ⟨a, rfl, hB a h, ?_⟩
        walk_at "dm"
        rw [S_len, List.length_map]
        exact ⟨by have := hB a h; unfold SgB at this; omega, .inl (a.2.length : Int), rfl, hS⟩
      · refine ⟨as.map fun a => .inl (a.2.length : Int), by rw [List.map_map]; rfl, ?_⟩
        by_cases hs : ∃ n, ∀ a ∈ as, a.2.length = n
        · obtain ⟨n, ha⟩ := hs
          have e1 : (as.map fun a => (.inl (a.2.length : Int) : Key)) = as.map fun _ => (.inl (n : Int) : Key) := List.map_congr_left fun a h => by rw [ha a h]
          have hd := dist_same (as.map fun _ => (.inl (n : Int) : Key)) (.inl (n : Int)) (by simp)
          rw [e1]
          walk_at "dm"
          rw [decide_eq_false (by omega), if_neg (by decide)]
          unfold U_multiply_2 U_multiply_3
          have main : ∀ n, (∀ a ∈ as, a.2.length = n) → n ≤ 100000 → uFor (uItT (uVar 0)) (gNm 1) (U_multiply_3_b_0 e_InvalidString e_LengthMismatch XP) ⟨U_multiply_4 e_InvalidString e_LengthMismatch XP ⟨fun x => P (.sh .non), fun r x => P r, fun _ => False, fun _ => False⟩, fun r x => P r, fun _ => False, fun _ => False⟩ [.sh (.tup (as.map strD)), v1, .sh (strD (oneS n))] := by
            intro n ha hn
            refine for_pre as strD (fun pre e => ∃ v1, e = [.sh (.tup (as.map strD)), v1, .sh (strD (prodS n pre))]) (fun Q q => q) ⟨_, rfl⟩ ?_ ?_
            · rintro pre a post hp e ⟨v1, rfl⟩
              unfold U_multiply_3_b_0
              walk_at "dm"
              refine ⟨_, a, rfl, ?_, hB a (by rw [hp]; simp), ?_⟩
              · unfold SgB
                rw [show (prodS n pre).2.length = n from prodS_len (by simp [oneS]) fun c hc => ha c (by rw [hp]; simp [hc])]
                exact hn
              · refine ⟨.sh (strD a), ?_⟩
                unfold prodS
                rw [List.foldl_append]
                rfl
            · rintro e ⟨v1, rfl⟩
              unfold U_multiply_4
              walk_at "dm"
              exact k as n rfl ha
          walk_at "dm"
          rw [List.length_map]
          cases as with
          | nil => exact main 0 (by simp) (by decide)
          | cons a as =>
            rw [decide_eq_true (by simp), if_pos rfl]
            refine ix_atT (n := 0) (x := strD a) rfl ?_
            walk_at "dm"
            refine ⟨a, rfl, hB a (by simp), ?_⟩
            walk_at "dm"
            have hna := ha a (by simp)
            have hn : n ≤ 100000 := by have := hB a (by simp); unfold SgB at this; omega
            refine ⟨by rw [S_len, List.length_map]; omega, ?_⟩
            rw [S_len, List.length_map, hna]
            refine ⟨n, rfl, hn, ?_⟩
            have e := one_txt n
            rw [← e]
            exact main n ha hn
        · have hd := dist_many hs
          walk_at "dm"
          rw [decide_eq_true (by omega), if_pos rfl]
          exact ⟨by decide, _, rfl, kl as rfl hs⟩
theorem star_mulX {e1 e2 : Addr} {ls : List (List Nat)} {ds : List D} {P : R → Prop} {XP : XD → Prop} (e : ds = ls.map fun l => .str (S l)) (hl : ls.length ≤ 1000) (hb : ∀ l ∈ ls, l.length ≤ 1000) (kx : ∀ l, ls.find? badS = some l → XP (xStr e1 l)) (kl : ∀ as : List Sg, ls = as.map txt → (¬ ∃ n, ∀ a ∈ as, a.2.length = n) → XP (xLen e2))
    (k : ∀ (as : List Sg) n, ls = as.map txt → (∀ a ∈ as, a.2.length = n) → P (.sh (strD (prodS n as)))) : fStarX 0 (F_multiply e1 e2) ds P XP :=
  ⟨[], ds, rfl, rfl, by rw [e, List.length_map]; omega, ls, by rw [e]; rfl, hl, hb, kx, kl, k⟩
def F_commute (e1 e2 : Addr) : FSX := fun ds P XP => ∃ a c : List Nat, ds = [.str (S a), .str (S c)] ∧ a.length ≤ 1000 ∧ c.length ≤ 1000 ∧
  ((badS a = true ∧ XP (xStr e1 a)) ∨ (badS a = false ∧ badS c = true ∧ XP (xStr e1 c)) ∨ (badS a = false ∧ badS c = false ∧ (letW a).length ≠ (letW c).length ∧ XP (xLen e2)))
def U_commute_0 (e_InvalidString : Addr) (e_LengthMismatch : Addr) (xp : XD → Prop) : DS := (uRet (uX (uBin fEq (uCallX (fStarX 0 (F_multiply e_InvalidString e_LengthMismatch)) xp (uCons (uVar 0) (uCons (uVar 1) uNil))) (uCallX (fStarX 0 (F_multiply e_InvalidString e_LengthMismatch)) xp (uCons (uVar 1) (uCons (uVar 0) uNil))))))
theorem ok_commute (B : Bt mg) {e_InvalidString e_LengthMismatch : Addr} (K_multiply : KnownRX P w K mg base "multiply" 4 (spX K (fStarX 0 (F_multiply e_InvalidString e_LengthMismatch)))) (Hr : Here K mg "commute" s_commute ["one", "other"]) : KnownX P w K mg base "commute" 5 ["one", "other"] (spX K (F_commute e_InvalidString e_LengthMismatch)) := by
  obtain ⟨f, fd, F, hm, hbi⟩ := Hr.ex
  refine ⟨f, fd, fnOk_X (u := fun xp => (U_commute_0 e_InvalidString e_LengthMismatch xp)) F sc_commute ?len (fun xp cdv A outer s H E hr tk hp => (dss_one
    (ds_ret (PD.x (d_eq hr.units (d_callRX tk K_multiply (hr.mono (by omega)) (da_cons (d_var 0) (da_cons (d_var 1) da_nil))) (d_callRX tk K_multiply (hr.mono (by omega)) (da_cons (d_var 1) (da_cons (d_var 0) da_nil)))))))) ?hu, hm, F.kp, hbi⟩
  case len => rintro ds P XP ⟨a, c, rfl, _⟩; rfl
  case hu =>
    rintro ds P XP ⟨a, c, rfl, ha, hc, k⟩
    unfold U_commute_0
    walk_at "dm"
    refine star_mulX (ls := [a, c]) rfl (by simp) (by simp [ha, hc]) ?_ ?_ ?_
    · intro l hf
      rw [List.find?_cons, List.find?_cons] at hf
      rcases k with ⟨h, k⟩ | ⟨h, h', k⟩ | ⟨h, h', _⟩
      · rw [h] at hf
        injection hf with hf
        subst hf
        exact k
      · rw [h, h'] at hf
        injection hf with hf
        subst hf
        exact k
      · rw [h, h'] at hf
        cases hf
    · intro as e hs
      match as, e with
      | [x, y], e =>
        injection e with e1 e2
        injection e2 with e2 _
        subst e1 e2
        rcases k with ⟨h, k⟩ | ⟨h, h', k⟩ | ⟨_, _, _, k⟩
        · rw [good_txt] at h; cases h
        · rw [good_txt] at h'; cases h'
        · exact k
    · intro as n e hs
      match as, e with
      | [x, y], e =>
        injection e with e1 e2
        injection e2 with e2 _
        subst e1 e2
        rcases k with ⟨h, k⟩ | ⟨h, h', k⟩ | ⟨_, _, hne, k⟩
        · rw [good_txt] at h; cases h
        · rw [good_txt] at h'; cases h'
        · rw [letW_txt, letW_txt, List.length_map, List.length_map, hs x (by simp), hs y (by simp)] at hne
          exact absurd rfl hne
theorem prod2 {n : Nat} {a c : Sg} (ha : a.2.length = n) : prodS n [a, c] = mulS a c := by
  show mulS (mulS (oneS n) a) c = _
  rw [oneS_mul ha]
theorem str_dec (a c : Sg) : decide (S (txt a) = S (txt c)) = decide (a = c) := by
  rw [decS]
  exact decide_eq_decide.mpr ⟨txt_inj, fun h => by rw [h]⟩
-- §SPLIT
theorem sgn_txt {i : Int} {ls : List Lt} {P : R → Prop} (hl : ls.length ≤ 900000) (q : P (.sh (strD (decide (i % 2 = 1), ls)))) : F__law_signed [.int i, .str (S (ls.map cc))] P := ⟨i, _, rfl, by rw [List.length_map]; exact hl, q⟩
def F__law_string : FS := fun ds P => ∃ n : Nat, ds = [.int (n : Int)] ∧ n ≤ 1000 ∧ ∀ a : Sg, a.2.length = n → P (.sh (strD a))
def U_law_string_0 : DS := (uRet (uX (uCall F__law_signed (uCons (uCallB fPull 0 (uCons (uC (.int 2)) uNil)) (uCons (uM1 fJoin (uC (.str "")) (uLc (uR1 (uCons (uVar 1) uNil)) (gNm 2) uYes (uCallB F__law_of 0 (uCons (uC (.str "11XZW")) uNil)) [2])) uNil)))))
theorem lt_of {c : Nat} (h : c ∈ [49, 49, 88, 90, 87]) : ∃ l : Lt, cc l = c := by
  simp only [List.mem_cons, List.not_mem_nil, or_false] at h
  rcases h with rfl | rfl | rfl | rfl | rfl
  · exact ⟨(false, false), rfl⟩
  · exact ⟨(false, false), rfl⟩
  · exact ⟨(true, false), rfl⟩
  · exact ⟨(false, true), rfl⟩
  · exact ⟨(true, true), rfl⟩
theorem ok__law_string (B : Bt mg) (K__law_signed : Known P w K mg base "_law_signed" 1 ["_law_mturned", "_law_body_here"] (spN K F__law_signed)) (K__law_pull : Known P w K mg base "_law_pull" 1 ["_law_bag_here", "_law_many"] (spB K fPull)) (K__law_of : Known P w K mg base "_law_of" 2 ["_law_bag_here", "_law_things"] (spB K F__law_of)) (Hr : Here K mg "_law_string" s__law_string ["_law_bag_here", "_law_size"]) : Known P w K mg base "_law_string" 3 ["_law_bag_here", "_law_size"] (spB K F__law_string) := by
  obtain ⟨f, fd, F, hm, hbi⟩ := Hr.ex
  refine fn_bag (u := U_law_string_0) F hm hbi sc__law_string ?len rfl (fun b cdv A outer s H E hr => (dss_one
    (ds_ret (PD.x (d_call K__law_signed (hr.mono (by omega)) (da_cons (d_callB (i := 0) K__law_pull (hr.mono (by omega)) (da_cons d_int da_nil)) (da_cons (d_join d_str (d_lc (own := [("_law_k", 2)]) sc__law_string.nd (blkD (N := ["_law_bag_here", "_law_size", "_law_k"]) (sc := defScope s__law_string) (by decide +kernel)) (by decide) (di_range1 B.range_ (da_cons (d_var 1) da_nil)) (fun _ _ _ _ _ => (dg_name (i := 2) sc__law_string.nd)) (fun _ _ _ _ _ => dts_nil) (fun _ _ _ _ _ => (d_callB (i := 0) K__law_of (hr.mono (by omega)) (da_cons d_str da_nil))))) da_nil))))))) ?hu
  case len => rintro ds P ⟨n, rfl, _⟩; rfl
  case hu =>
    rintro ds P ⟨n, rfl, hn, k⟩
    unfold U_law_string_0
    walk_at "dm"
    refine ⟨rfl, 2, rfl, by decide, by decide, fun j j0 j1 => ?_⟩
    refine ⟨⟨_, rfl⟩, ?_⟩
    refine lc_any (fun xs => xs = nums 0 n) (fun l : Lt => D.str (S [cc l])) (fun _ => True) (fun Q q => ⟨n, rfl, by omega, by omega, q _ rfl⟩) (fun xs h => by rw [h, nums_len]; omega) ?_ ?_
    · rintro xs rfl x hx S hS
      walk_at "dm"
      refine ⟨rfl, .inr ⟨[49, 49, 88, 90, 87], rfl, by decide, by decide, fun c hc => ?_⟩⟩
      obtain ⟨l, rfl⟩ := lt_of hc
      exact hS l trivial
    · rintro xs rfl ls hll _
      rw [nums_len] at hll
      walk_at "dm"
      rw [show Str.ofString "" = S [] from rfl, show ls.map (fun l => D.str (S [cc l])) = chs (ls.map cc) by unfold chs; rw [List.map_map]; rfl]
      refine fJoin_chs (by rw [List.length_map]; omega) (sgn_txt (by omega) ?_)
      exact k _ hll
def F__law_is_string : FS := fun ds P => ∃ l : List Nat, ds = [.str (S l)] ∧ l.length ≤ 1000000 ∧ P (.sh (.bl (!badS l)))
def U_law_is_string_0 : DS := (uRet (uX (uB fAll (uLc (uItQ (uCall F__law_body (uCons (uVar 0) uNil))) (gNm 1) uYes (uBin (fInU false) (uVar 1) (uC (.str "1XZW"))) [1]))))
theorem ok__law_is_string (B : Bt mg) (K__law_body : Known P w K mg base "_law_body" 1 ["_law_text"] (spN K F__law_body)) (Hr : Here K mg "_law_is_string" s__law_is_string ["_law_text"]) : Known P w K mg base "_law_is_string" 2 ["_law_text"] (spN K F__law_is_string) := by
  obtain ⟨f, fd, F, hm, hbi⟩ := Hr.ex
  refine fn_data (u := U_law_is_string_0) F hm hbi sc__law_is_string ?len (fun cdv A outer s H E hr => (dss_one
    (ds_ret (PD.x (d_all B.all_ (d_lc (own := [("_law_sign", 1)]) sc__law_is_string.nd (blkD (N := ["_law_text", "_law_sign"]) (sc := defScope s__law_is_string) (by decide +kernel)) (by decide) (di_any (d_call K__law_body (hr.mono (by omega)) (da_cons (d_var 0) da_nil))) (fun _ _ _ _ _ => (dg_name (i := 1) sc__law_is_string.nd)) (fun _ _ _ _ _ => dts_nil) (fun _ _ _ _ _ => (d_inU (hu_of hr) (d_var 1) d_str)))))))) ?hu
  case len => rintro ds P ⟨l, rfl, _⟩; rfl
  case hu =>
    rintro ds P ⟨l, rfl, hl, k⟩
    have hlw := letW_len l
    unfold U_law_is_string_0
    walk_at "dm"
    refine lc_map (letW l) (fun c => .str (S [c])) (fun c => .bl (decide (c ∈ [49, 88, 90, 87]))) (fun Q q => ?_) (by omega) (fun c hc S' hS => ?_) ?_
    · refine ⟨l, rfl, hl, ?_⟩
      walk_at "dm"
      rw [signs_S]
      exact q
    · walk_at "dm"
      exact ⟨c, rfl, hS⟩
    · walk_at "dm"
      refine ⟨(letW l).map fun c => decide (c ∈ [49, 88, 90, 87]), by rw [List.map_map]; rfl, ?_⟩
      rw [List.all_map]
      unfold badS at k
      rw [Bool.not_not] at k
      exact k
theorem iteT {c : Bool} {p q : Prop} [i : Decidable (c = true)] (h : c = true) (x : p) : if c = true then p else q := by rw [if_pos h]; exact x
theorem iteF {c : Bool} {p q : Prop} [i : Decidable (c = true)] (h : c = false) (x : q) : if c = true then p else q := by rw [if_neg (by rw [h]; decide)]; exact x
theorem setI_one {xs : List Int} : (setI xs).length ≤ 1 ↔ ∃ n, ∀ x ∈ xs, x = n := by
  have nd := setI_nodup xs
  have hm : ∀ z, z ∈ setI xs ↔ z ∈ xs := fun z => setI_mem
  generalize setI xs = l at nd hm
  match l, nd, hm with
  | [], _, hm => exact ⟨fun _ => ⟨0, fun x hx => by have := (hm x).mpr hx; cases this⟩, fun _ => by simp⟩
  | [n], _, hm => exact ⟨fun _ => ⟨n, fun x hx => by simpa using (hm x).mpr hx⟩, fun _ => by simp⟩
  | a :: c :: l, nd, hm =>
    constructor
    · intro h; simp at h
    · rintro ⟨n, hn⟩
      have h1 := hn a ((hm a).mp (by simp))
      have h2 := hn c ((hm c).mp (by simp))
      rw [List.nodup_cons] at nd
      exact absurd (by rw [h1, h2]; simp) nd.1
def Due (ls : List (List Nat)) (due told : List D) : Prop :=
  (∃ w, ls.find? badS = some w ∧ due = [.str "invalidstring", .str (S w)] ∧ told = due) ∨ ((∃ w, ls.find? badS = none ∧ w = "lengthmismatch" ∧ due = [.str w, .non] ∧ told = due)) ∨ (∃ d, due = [.str "", .str ""] ∧ told = [.str "", d])
def U_law_0_b_2_b_2 (K : PySem.W.Frag) (Pt : Addr) (e_ThreadError : Addr) (e_Missing : Addr) (e_InvalidString : Addr) (e_LengthMismatch : Addr) : DS := (uSetIx 4 (uVar 7) (uX (uBin fAdd (uBin fAdd (uSl (uBin fAt (uVar 4) (uVar 7)) uNo (uPart (uVar 5))) (uVar 8)) (uSl (uBin fAt (uVar 4) (uVar 7)) (uPart (uVar 5)) uNo))))
def U_law_0_b_2_b_1 (K : PySem.W.Frag) (Pt : Addr) (e_ThreadError : Addr) (e_Missing : Addr) (e_InvalidString : Addr) (e_LengthMismatch : Addr) : DS := uSeq (uSet 8 (uX (uCallB F__law_of 1 (uCons (uLst (uCons (uC (.str "Y")) (uCons (uC (.str "x")) (uCons (uC (.str "-")) (uCons (uC (.str " ")) (uCons (uC (.str "0")) (uCons (uC (.str "11-")) (uCons (uC (.str "a")) (uCons (uC (.str "W")) uNil))))))))) uNil)))) (U_law_0_b_2_b_2 K Pt e_ThreadError e_Missing e_InvalidString e_LengthMismatch)
def U_law_0_b_2_b_0 (K : PySem.W.Frag) (Pt : Addr) (e_ThreadError : Addr) (e_Missing : Addr) (e_InvalidString : Addr) (e_LengthMismatch : Addr) : DS := uSeq (uPar 7 5 false false (uCallB fPull 1 (uCons (uC (.int 3)) uNil)) (uCallB fPull 1 (uCons (uBin fAdd (uVar 3) (uC (.int 1))) uNil))) (U_law_0_b_2_b_1 K Pt e_ThreadError e_Missing e_InvalidString e_LengthMismatch)
def U_law_0_b_8_t_0 (K : PySem.W.Frag) (Pt : Addr) (e_ThreadError : Addr) (e_Missing : Addr) (e_InvalidString : Addr) (e_LengthMismatch : Addr) : DS := (uRet (uX (uC (.bl false))))
def U_law_0_b_9_b_1_t_0 (K : PySem.W.Frag) (Pt : Addr) (e_ThreadError : Addr) (e_Missing : Addr) (e_InvalidString : Addr) (e_LengthMismatch : Addr) : DS := (uRet (uX (uC (.bl false))))
def U_law_0_b_9_b_1 (K : PySem.W.Frag) (Pt : Addr) (e_ThreadError : Addr) (e_Missing : Addr) (e_InvalidString : Addr) (e_LengthMismatch : Addr) : DS := (uIf (uNot (uTru (uCall (F__law_same 4) (uCons (uTried K Pt lawLam e_ThreadError e_Missing (F__law_field K) (fun xp => (uCallX (F_check_string e_InvalidString e_LengthMismatch) xp (uCons (uVar 10) uNil)))) (uCons (uVar 12) uNil))))) (U_law_0_b_9_b_1_t_0 K Pt e_ThreadError e_Missing e_InvalidString e_LengthMismatch) uNext)
def U_law_0_b_9_b_0 (K : PySem.W.Frag) (Pt : Addr) (e_ThreadError : Addr) (e_Missing : Addr) (e_InvalidString : Addr) (e_LengthMismatch : Addr) : DS := uSeq (uSet 12 (uX (uIfE (uTru (uCall F__law_is_string (uCons (uVar 10) uNil))) (uTup (uCons (uC (.str "")) (uCons (uC .non) uNil))) (uTup (uCons (uC (.str "invalidstring")) (uCons (uVar 10) uNil)))))) (U_law_0_b_9_b_1 K Pt e_ThreadError e_Missing e_InvalidString e_LengthMismatch)
def U_law_0_b_13_t_0 (K : PySem.W.Frag) (Pt : Addr) (e_ThreadError : Addr) (e_Missing : Addr) (e_InvalidString : Addr) (e_LengthMismatch : Addr) : DS := (uRet (uX (uC (.bl false))))
def U_law_0_b_13 (K : PySem.W.Frag) (Pt : Addr) (e_ThreadError : Addr) (e_Missing : Addr) (e_InvalidString : Addr) (e_LengthMismatch : Addr) : DS := (uIf (uTest (uBin fNe (uVar 15) (uBin fAdd (uBin fRepL (uLst (uCons (uTup (uCons (uC (.str "invalidstring")) (uCons (uVar 14) uNil))) uNil)) (uC (.int 2))) (uLst (uCons (uTup (uCons (uC (.str "lengthmismatch")) (uCons (uC .non) uNil))) uNil))))) (U_law_0_b_13_t_0 K Pt e_ThreadError e_Missing e_InvalidString e_LengthMismatch) uNext)
def U_law_0_b_12 (K : PySem.W.Frag) (Pt : Addr) (e_ThreadError : Addr) (e_Missing : Addr) (e_InvalidString : Addr) (e_LengthMismatch : Addr) : DS := uSeq (uApp 15 (uX (uTried K Pt lawLam e_ThreadError e_Missing (F__law_field K) (fun xp => (uCallX (F_commute e_InvalidString e_LengthMismatch) xp (uCons (uC (.str "-X")) (uCons (uC (.str "XX")) uNil))))))) (uFrz 15 (U_law_0_b_13 K Pt e_ThreadError e_Missing e_InvalidString e_LengthMismatch))
def U_law_0_b_11 (K : PySem.W.Frag) (Pt : Addr) (e_ThreadError : Addr) (e_Missing : Addr) (e_InvalidString : Addr) (e_LengthMismatch : Addr) : DS := uSeq (uOwn 15 (uX (uLst (uCons (uTried K Pt lawLam e_ThreadError e_Missing (F__law_field K) (fun xp => (uCallX (F_commute e_InvalidString e_LengthMismatch) xp (uCons (uVar 14) (uCons (uC (.str "XX")) uNil))))) (uCons (uTried K Pt lawLam e_ThreadError e_Missing (F__law_field K) (fun xp => (uCallX (F_commute e_InvalidString e_LengthMismatch) xp (uCons (uC (.str "1")) (uCons (uVar 14) uNil))))) uNil))))) (U_law_0_b_12 K Pt e_ThreadError e_Missing e_InvalidString e_LengthMismatch)
def U_law_0_b_10 (K : PySem.W.Frag) (Pt : Addr) (e_ThreadError : Addr) (e_Missing : Addr) (e_InvalidString : Addr) (e_LengthMismatch : Addr) : DS := uSeq (uSet 14 (uX (uCallB F__law_of 1 (uCons (uLst (uCons (uC (.str "Q")) (uCons (uC (.str "X-")) (uCons (uC (.str "--X")) uNil)))) uNil)))) (U_law_0_b_11 K Pt e_ThreadError e_Missing e_InvalidString e_LengthMismatch)
def U_law_0_b_9 (K : PySem.W.Frag) (Pt : Addr) (e_ThreadError : Addr) (e_Missing : Addr) (e_InvalidString : Addr) (e_LengthMismatch : Addr) : DS := uSeq (uFor (uItQ (uVar 4)) (gNm 10) (U_law_0_b_9_b_0 K Pt e_ThreadError e_Missing e_InvalidString e_LengthMismatch)) (U_law_0_b_10 K Pt e_ThreadError e_Missing e_InvalidString e_LengthMismatch)
def U_law_0_b_8 (K : PySem.W.Frag) (Pt : Addr) (e_ThreadError : Addr) (e_Missing : Addr) (e_InvalidString : Addr) (e_LengthMismatch : Addr) : DS := uSeq (uIf (uOr (uTest (uBin fNe (uBin fAt (uVar 13) (uC (.int 0))) (uBin fAt (uVar 12) (uC (.int 0))))) (uAnd (uTest (uBin fNe (uBin fAt (uVar 12) (uC (.int 0))) (uC (.str "")))) (uTest (uBin fNe (uVar 13) (uVar 12))))) (U_law_0_b_8_t_0 K Pt e_ThreadError e_Missing e_InvalidString e_LengthMismatch) uNext) (U_law_0_b_9 K Pt e_ThreadError e_Missing e_InvalidString e_LengthMismatch)
def U_law_0_b_7 (K : PySem.W.Frag) (Pt : Addr) (e_ThreadError : Addr) (e_Missing : Addr) (e_InvalidString : Addr) (e_LengthMismatch : Addr) : DS := uSeq (uSet 13 (uX (uTried K Pt lawLam e_ThreadError e_Missing (F__law_field K) (fun xp => (uCallX (fStarX 0 (F_multiply e_InvalidString e_LengthMismatch)) xp (uCons (uBin fAt (uVar 4) (uC (.int 0))) (uCons (uBin fAt (uVar 4) (uC (.int 1))) (uCons (uBin fAt (uVar 4) (uC (.int 2))) uNil)))))))) (U_law_0_b_8 K Pt e_ThreadError e_Missing e_InvalidString e_LengthMismatch)
def U_law_0_b_6 (K : PySem.W.Frag) (Pt : Addr) (e_ThreadError : Addr) (e_Missing : Addr) (e_InvalidString : Addr) (e_LengthMismatch : Addr) : DS := uSeq (uSet 12 (uX (uIfE (uTest (uBin fNe (uVar 9) (uLst uNil))) (uTup (uCons (uC (.str "invalidstring")) (uCons (uBin fAt (uVar 9) (uC (.int 0))) uNil))) (uVar 12)))) (U_law_0_b_7 K Pt e_ThreadError e_Missing e_InvalidString e_LengthMismatch)
def U_law_0_b_5 (K : PySem.W.Frag) (Pt : Addr) (e_ThreadError : Addr) (e_Missing : Addr) (e_InvalidString : Addr) (e_LengthMismatch : Addr) : DS := uSeq (uSet 12 (uX (uIfE (uTest (uBin fGt (uB fLenU (uVar 11)) (uC (.int 1)))) (uTup (uCons (uC (.str "lengthmismatch")) (uCons (uC .non) uNil))) (uTup (uCons (uC (.str "")) (uCons (uC (.str "")) uNil)))))) (U_law_0_b_6 K Pt e_ThreadError e_Missing e_InvalidString e_LengthMismatch)
def U_law_0_b_4 (K : PySem.W.Frag) (Pt : Addr) (e_ThreadError : Addr) (e_Missing : Addr) (e_InvalidString : Addr) (e_LengthMismatch : Addr) : DS := uSeq (uSet 11 (uX (uB fSortSet (uLc (uItQ (uVar 4)) (gNm 10) uYes (uB fLenU (uCall F__law_body (uCons (uVar 10) uNil))) [10])))) (U_law_0_b_5 K Pt e_ThreadError e_Missing e_InvalidString e_LengthMismatch)
def U_law_0_b_3 (K : PySem.W.Frag) (Pt : Addr) (e_ThreadError : Addr) (e_Missing : Addr) (e_InvalidString : Addr) (e_LengthMismatch : Addr) : DS := uSeq (uSet 9 (uX (uLc (uItQ (uVar 4)) (gNm 10) (uNot (uTru (uCall F__law_is_string (uCons (uVar 10) uNil)))) (uVar 10) [10]))) (U_law_0_b_4 K Pt e_ThreadError e_Missing e_InvalidString e_LengthMismatch)
def U_law_0_b_2 (K : PySem.W.Frag) (Pt : Addr) (e_ThreadError : Addr) (e_Missing : Addr) (e_InvalidString : Addr) (e_LengthMismatch : Addr) : DS := uSeq (uFor (uR1 (uCons (uCallB fPull 1 (uCons (uC (.int 3)) uNil)) uNil)) (gNm 6) (U_law_0_b_2_b_0 K Pt e_ThreadError e_Missing e_InvalidString e_LengthMismatch)) (uFrz 4 (U_law_0_b_3 K Pt e_ThreadError e_Missing e_InvalidString e_LengthMismatch))
def U_law_0_b_1 (K : PySem.W.Frag) (Pt : Addr) (e_ThreadError : Addr) (e_Missing : Addr) (e_InvalidString : Addr) (e_LengthMismatch : Addr) : DS := uSeq (uOwn 4 (uX (uLc (uR1 (uCons (uC (.int 3)) uNil)) (gNm 5) uYes (uCallB F__law_string 1 (uCons (uCallB F__law_of 1 (uCons (uLst (uCons (uVar 3) (uCons (uVar 3) (uCons (uVar 3) (uCons (uVar 3) (uCons (uBin fAdd (uVar 3) (uC (.int 1))) uNil)))))) uNil)) uNil)) [5]))) (U_law_0_b_2 K Pt e_ThreadError e_Missing e_InvalidString e_LengthMismatch)
def U_law_0_b_0 (K : PySem.W.Frag) (Pt : Addr) (e_ThreadError : Addr) (e_Missing : Addr) (e_InvalidString : Addr) (e_LengthMismatch : Addr) : DS := uSeq (uSet 3 (uX (uCallB fPull 1 (uCons (uC (.int 6)) uNil)))) (U_law_0_b_1 K Pt e_ThreadError e_Missing e_InvalidString e_LengthMismatch)
def U_law_1 (K : PySem.W.Frag) (Pt : Addr) (e_ThreadError : Addr) (e_Missing : Addr) (e_InvalidString : Addr) (e_LengthMismatch : Addr) : DS := (uRet (uX (uAndV (uBin fIs (uCallX (F_check_string e_InvalidString e_LengthMismatch) (fun _ => False) (uCons (uC (.str "-")) uNil)) (uC .non)) (uBin fIs (uCallX (F_check_string e_InvalidString e_LengthMismatch) (fun _ => False) (uCons (uC (.str "")) uNil)) (uC .non)))))
def U_law_0 (K : PySem.W.Frag) (Pt : Addr) (e_ThreadError : Addr) (e_Missing : Addr) (e_InvalidString : Addr) (e_LengthMismatch : Addr) : DS := uSeq (uFor (uR1 (uCons (uC (.int 8)) uNil)) (gNm 2) (U_law_0_b_0 K Pt e_ThreadError e_Missing e_InvalidString e_LengthMismatch)) (U_law_1 K Pt e_ThreadError e_Missing e_InvalidString e_LengthMismatch)
/-- the texts on the way -/
def TxB (n : Nat) (ls : List (List Nat)) : Prop := ls.length = 3 ∧ ∀ l ∈ ls, l.length ≤ n ∧ ∀ c ∈ l, c < 1114112
-- §SPLIT
theorem ok_law (B : Bt mg) {e_InvalidString e_LengthMismatch e_ThreadError e_Missing : Addr} (O_InvalidString : XOk K e_ThreadError e_Missing e_InvalidString) (N_InvalidString : ∀ f ∈ [("code" : Str), ("value" : Str)], PySem.W.findIn K (.ref e_InvalidString) f = some none) (O_LengthMismatch : XOk K e_ThreadError e_Missing e_LengthMismatch) (N_LengthMismatch : ∀ f ∈ [("code" : Str)], PySem.W.findIn K (.ref e_LengthMismatch) f = some none) (K__law_bag : Known P w K mg base "_law_bag" 1 ["_law_script"] (spBagT K)) (K__law_pull : Known P w K mg base "_law_pull" 1 ["_law_bag_here", "_law_many"] (spB K fPull)) (K__law_tried : KnownT P w K mg base "_law_tried" s__law_tried "_law_ask" "ThreadError" "Missing" "_law_field" e_ThreadError e_Missing (F__law_field K)) (K__law_of : Known P w K mg base "_law_of" 2 ["_law_bag_here", "_law_things"] (spB K F__law_of)) (K__law_string : Known P w K mg base "_law_string" 3 ["_law_bag_here", "_law_size"] (spB K F__law_string)) (K_check_string : KnownX P w K mg base "check_string" 3 ["text"] (spX K (F_check_string e_InvalidString e_LengthMismatch))) (K_multiply : KnownRX P w K mg base "multiply" 4 (spX K (fStarX 0 (F_multiply e_InvalidString e_LengthMismatch)))) (K__law_is_string : Known P w K mg base "_law_is_string" 2 ["_law_text"] (spN K F__law_is_string)) (K__law_same : Known P w K mg base "_law_same" 4 ["_law_found", "_law_due"] (spN K (F__law_same 4))) (K_commute : KnownX P w K mg base "commute" 5 ["one", "other"] (spX K (F_commute e_InvalidString e_LengthMismatch))) (K__law_body : Known P w K mg base "_law_body" 1 ["_law_text"] (spN K F__law_body)) {c Pt f : Addr} (TB : LamX.TabB base mg c Pt) {oc kV doc pm ct : Value} {od an : Option Addr} {osl : Array (Option Value)} (lk : K.lookup f = some ⟨oc, od, .func (PySem.W.fnOf "law" "law" (defArgs s_law) (defBody s_law) (defScope s_law) .none kV doc pm an (.ref c) ct), osl⟩) (hcd : PySem.W.codeIn K (.ref c) "law" = true) : FnOk P w K mg base CX0 10 f (PySem.W.fnOf "law" "law" (defArgs s_law) (defBody s_law) (defScope s_law) .none kV doc pm an (.ref c) ct) ["_law_script"] (spLawT K Pt) := by
  refine law_textT (k := 9) (q := lawLam) (N := ["_law_script", "_law_bag_here", "_law_turn", "_law_size", "_law_some", "_law_k", "_law_step", "_law_at", "_law_sign", "_law_wrong", "_law_one", "_law_sizes", "_law_due", "_law_told", "_law_bad", "_law_words"]) (u := (U_law_0 K Pt e_ThreadError e_Missing e_InvalidString e_LengthMismatch)) rfl rfl lk hcd sc_law (fun A outer s H E => fun h => ps_set (i := 1) sc_law.nd rfl (by first | exact Or.inl rfl | exact Or.inr rfl) h) (fun A outer s H E hr => by obtain ⟨fa, fb, F1, hm1, hk1, hb1⟩ := K__law_bag; exact pe_call F1 (hr.mono (by decide)) rfl hm1 hk1 hb1 .nil pass0 (pa_cons (pv 0) pa_nil)) (fun b A outer s H E hr => (dss_cons
    (ds_for (di_range1 B.range_ (da_cons d_int da_nil)) (dg_name (i := 2) sc_law.nd) (dss_cons
    (ds_set (i := 3) (PD.x (d_callB (i := 1) K__law_pull (hr.mono (by omega)) (da_cons d_int da_nil))) sc_law.nd) (dss_cons
    (ds_own (i := 4) (PD.x (d_lc (own := [("_law_k", 5)]) sc_law.nd (blkD (N := ["_law_script", "_law_bag_here", "_law_turn", "_law_size", "_law_some", "_law_k", "_law_step", "_law_at", "_law_sign", "_law_wrong", "_law_one", "_law_sizes", "_law_due", "_law_told", "_law_bad", "_law_words"]) (sc := defScope s_law) (by decide +kernel)) (by decide) (di_range1 B.range_ (da_cons d_int da_nil)) (fun _ _ _ _ _ => (dg_name (i := 5) sc_law.nd)) (fun _ _ _ _ _ => dts_nil) (fun _ _ _ _ _ => (d_callB (i := 1) K__law_string (hr.mono (by omega)) (da_cons (d_callB (i := 1) K__law_of (hr.mono (by omega)) (da_cons (d_lst (da_cons (d_var 3) (da_cons (d_var 3) (da_cons (d_var 3) (da_cons (d_var 3) (da_cons (d_add (d_var 3) d_int) da_nil)))))) da_nil)) da_nil))))) sc_law.nd) (dss_cons
    (ds_for (di_range1 B.range_ (da_cons (d_callB (i := 1) K__law_pull (hr.mono (by omega)) (da_cons d_int da_nil)) da_nil)) (dg_name (i := 6) sc_law.nd) (dss_cons
    (ds_par (i := 7) (j := 5) false false sc_law.nd (d_callB (i := 1) K__law_pull (hr.mono (by omega)) (da_cons d_int da_nil)) (d_callB (i := 1) K__law_pull (hr.mono (by omega)) (da_cons (d_add (d_var 3) d_int) da_nil))) (dss_cons
    (ds_set (i := 8) (PD.x (d_callB (i := 1) K__law_of (hr.mono (by omega)) (da_cons (d_lst (da_cons d_str (da_cons d_str (da_cons d_str (da_cons d_str (da_cons d_str (da_cons d_str (da_cons d_str (da_cons d_str da_nil))))))))) da_nil))) sc_law.nd) (dss_one
    (ds_setIx (i := 4) (d_var 7) (PD.x (d_add (d_add (d_slice (d_at (hu_of hr) (d_var 4) (d_var 7)) do_none (do_some (d_var 5))) (d_var 8)) (d_slice (d_at (hu_of hr) (d_var 4) (d_var 7)) (do_some (d_var 5)) do_none)))))))) (dss_frz 4 (dss_cons
    (ds_setLc (i := 9) (own := [("_law_one", 10)]) sc_law.nd (blkD (N := ["_law_script", "_law_bag_here", "_law_turn", "_law_size", "_law_some", "_law_k", "_law_step", "_law_at", "_law_sign", "_law_wrong", "_law_one", "_law_sizes", "_law_due", "_law_told", "_law_bad", "_law_words"]) (sc := defScope s_law) (by decide +kernel)) (by decide) (di_any (d_var 4)) (fun _ _ _ _ _ => (dg_name (i := 10) sc_law.nd)) (fun _ _ _ _ _ => (dts_one (dt_not (dt_tru (d_call K__law_is_string (hr.mono (by omega)) (da_cons (d_var 10) da_nil)))))) (fun _ _ _ _ _ => (d_var 10)) (sw_true rfl rfl rfl (by decide +kernel))) (dss_cons
    (ds_set (i := 11) (PD.x (d_sortSet B.sorted_ B.set_ (d_lc (own := [("_law_one", 10)]) sc_law.nd (blkD (N := ["_law_script", "_law_bag_here", "_law_turn", "_law_size", "_law_some", "_law_k", "_law_step", "_law_at", "_law_sign", "_law_wrong", "_law_one", "_law_sizes", "_law_due", "_law_told", "_law_bad", "_law_words"]) (sc := defScope s_law) (by decide +kernel)) (by decide) (di_any (d_var 4)) (fun _ _ _ _ _ => (dg_name (i := 10) sc_law.nd)) (fun _ _ _ _ _ => dts_nil) (fun _ _ _ _ _ => (d_lenU B.len_ (d_call K__law_body (hr.mono (by omega)) (da_cons (d_var 10) da_nil))))))) sc_law.nd) (dss_cons
    (ds_set (i := 12) (PD.x (d_if (dt_gt (d_lenU B.len_ (d_var 11)) d_int) (d_tup (da_cons d_str (da_cons d_non da_nil))) (d_tup (da_cons d_str (da_cons d_str da_nil))))) sc_law.nd) (dss_cons
    (ds_set (i := 12) (PD.x (d_if (dt_ne hr.units (d_var 9) (d_lst da_nil)) (d_tup (da_cons d_str (da_cons (d_at (hu_of hr) (d_var 9) d_int) da_nil))) (d_var 12))) sc_law.nd) (dss_cons
    (ds_set (i := 13) (PD.x (d_tried (n := "_law_e") (k := 4) K__law_tried TB rfl (hr.mono (by omega)) (fun xp A outer s H E f c' hr tk => (d_callRX tk K_multiply (hr.mono (by omega)) (da_cons (d_at (hu_of hr) (d_var 4) d_int) (da_cons (d_at (hu_of hr) (d_var 4) d_int) (da_cons (d_at (hu_of hr) (d_var 4) d_int) da_nil))))) sc__law_tried (L := lamS_by (show lamSB (defScope s_law) _ = true by decide +kernel)))) sc_law.nd) (dss_cons
    (ds_if (PDW.pt (dw_or (dt_ne hr.units (d_at (hu_of hr) (d_var 13) d_int) (d_at (hu_of hr) (d_var 12) d_int)) (dw_or1 (PDW.pt (dw_and (dt_ne hr.units (d_at (hu_of hr) (d_var 12) d_int) d_str) (dw_and1 (dt_ne hr.units (d_var 13) (d_var 12)))))))) (dss_one
    (ds_ret (PD.x d_bl))) dss_nil) (dss_cons
    (ds_for (di_any (d_var 4)) (dg_name (i := 10) sc_law.nd) (dss_cons
    (ds_set (i := 12) (PD.x (d_if (dt_tru (d_call K__law_is_string (hr.mono (by omega)) (da_cons (d_var 10) da_nil))) (d_tup (da_cons d_str (da_cons d_non da_nil))) (d_tup (da_cons d_str (da_cons (d_var 10) da_nil))))) sc_law.nd) (dss_one
    (ds_if (dt_not (dt_tru (d_call K__law_same (hr.mono (by omega)) (da_cons (d_tried (n := "_law_e") (k := 3) K__law_tried TB rfl (hr.mono (by omega)) (fun xp A outer s H E f c' hr tk => (d_callX tk K_check_string (hr.mono (by omega)) (da_cons (d_var 10) da_nil))) sc__law_tried (L := lamS_by (show lamSB (defScope s_law) _ = true by decide +kernel))) (da_cons (d_var 12) da_nil))))) (dss_one
    (ds_ret (PD.x d_bl))) dss_nil)))) (dss_cons
    (ds_set (i := 14) (PD.x (d_callB (i := 1) K__law_of (hr.mono (by omega)) (da_cons (d_lst (da_cons d_str (da_cons d_str (da_cons d_str da_nil)))) da_nil))) sc_law.nd) (dss_cons
    (ds_own (i := 15) (PD.x (d_lst (da_cons (d_tried (n := "_law_e") (k := 5) K__law_tried TB rfl (hr.mono (by omega)) (fun xp A outer s H E f c' hr tk => (d_callX tk K_commute (hr.mono (by omega)) (da_cons (d_var 14) (da_cons d_str da_nil)))) sc__law_tried (L := lamS_by (show lamSB (defScope s_law) _ = true by decide +kernel))) (da_cons (d_triedD (n := "_law_e") (p0 := "_law_a") (k := 5) K__law_tried TB rfl (hr.mono (by omega)) (fun xp A outer s H E f c' hr tk => (d_callX tk K_commute (hr.mono (by omega)) (da_cons d_str (da_cons (d_var 14) da_nil)))) sc__law_tried (L := lamD_by (show lamDB "_law_a" (defScope s_law) _ = true by decide +kernel)) (off := (show ("_law_a" : Str) ∉ (["_law_script", "_law_bag_here", "_law_turn", "_law_size", "_law_some", "_law_k", "_law_step", "_law_at", "_law_sign", "_law_wrong", "_law_one", "_law_sizes", "_law_due", "_law_told", "_law_bad", "_law_words"] : List Str) by decide))) da_nil)))) sc_law.nd) (dss_cons
    (ds_append (i := 15) (PD.x (d_tried (n := "_law_e") (k := 5) K__law_tried TB rfl (hr.mono (by omega)) (fun xp A outer s H E f c' hr tk => (d_callX tk K_commute (hr.mono (by omega)) (da_cons d_str (da_cons d_str da_nil)))) sc__law_tried (L := lamS_by (show lamSB (defScope s_law) _ = true by decide +kernel))))) (dss_frz 15 (dss_one
    (ds_if (dt_ne hr.units (d_var 15) (d_add (d_repL (d_lst (da_cons (d_tup (da_cons d_str (da_cons (d_var 14) da_nil))) da_nil)) d_int) (d_lst (da_cons (d_tup (da_cons d_str (da_cons d_non da_nil))) da_nil)))) (dss_one
    (ds_ret (PD.x d_bl))) dss_nil)))))))))))))))))) (dss_one
    (ds_ret (PD.x (d_and (d_is (d_callXq K_check_string (hr.mono (by omega)) (da_cons d_str da_nil)) d_non) (d_one (d_is (d_callXq K_check_string (hr.mono (by omega)) (da_cons d_str da_nil)) d_non)))))))) ?hu
  unfold U_law_0
  walk_at "dm"
  refine for_nums 8 (fun _ x => ∃ v2 v3 v4 v5 v6 v7 v8 v9 v10 v11 v12 v13 v14 v15, x = [.sh (.tabl Pt lawLam), .bag, v2, v3, v4, v5, v6, v7, v8, v9, v10, v11, v12, v13, v14, v15]) (fun Q q => ⟨8, rfl, by decide, by decide, q⟩) ⟨_, _, _, _, _, _, _, _, _, _, _, _, _, _, rfl⟩ ?_ ?_
  · rintro t ht x ⟨v2, v3, v4, v5, v6, v7, v8, v9, v10, v11, v12, v13, v14, v15, rfl⟩
    generalize hT : ((t : Nat) : Int) = t
    unfold U_law_0_b_0
    walk_at "dm"
    refine ⟨rfl, 6, rfl, by decide, by decide, fun j j0 j1 => ?_⟩
    obtain ⟨n, rfl⟩ := Int.eq_ofNat_of_zero_le j0
    have hn : n < 6 := by omega
    unfold U_law_0_b_1
    walk_at "dm"
    refine lc_any (fun xs => xs = nums 0 3) (fun l : List Nat => D.str (S l)) (fun l => l.length ≤ 10 ∧ ∀ c ∈ l, c < 1114112) (fun Q q => ⟨3, rfl, by decide, by decide, q _ rfl⟩) (fun xs h => by rw [h, nums_len]; decide) ?_ ?_
    · rintro xs rfl x hx S' hS
      walk_at "dm"
      refine ⟨rfl, rfl, by decide, .inl ⟨_, .inl rfl, by simp, by simp, fun x hx => ?_⟩⟩
      obtain ⟨m, rfl, hm⟩ : ∃ m : Nat, x = .int (m : Int) ∧ m ≤ 6 := by
        simp only [List.mem_cons, List.not_mem_nil, or_false] at hx
        rcases hx with rfl | rfl | rfl | rfl | rfl
        · exact ⟨n, rfl, by omega⟩
        · exact ⟨n, rfl, by omega⟩
        · exact ⟨n, rfl, by omega⟩
        · exact ⟨n, rfl, by omega⟩
        · exact ⟨n + 1, rfl, by omega⟩
      refine ⟨m, rfl, by omega, fun a ha => hS (txt a) ⟨?_, txt_ok a⟩⟩
      have := txt_len a
      omega
    rintro xs rfl ls hl3 hls
    rw [nums_len] at hl3
    walk_at "dm"
    show U_law_0_b_2 _ _ _ _ _ _ _ [.sh (.tabl Pt lawLam), .bag, .sh (.int t), .sh (.int (n : Int)), .own none (.lst (ls.map fun l => D.str (S l))), v5, v6, v7, v8, v9, v10, v11, v12, v13, v14, v15]
    unfold U_law_0_b_2
    walk_at "dm"
    refine ⟨rfl, 3, rfl, by decide, by decide, fun j j0 j1 => ?_⟩
    obtain ⟨kk, rfl⟩ := Int.eq_ofNat_of_zero_le j0
    refine ⟨((kk : Nat) : Int), rfl, by omega, by omega, ?_⟩
    rw [Int.toNat_natCast]
    refine ⟨fun i x => ∃ (ls : List (List Nat)) (v5 v6 v7 v8 : Sl), x = [.sh (.tabl Pt lawLam), .bag, .sh (.int t), .sh (.int (n : Int)), .own none (.lst (ls.map fun l => D.str (S l))), v5, v6, v7, v8, v9, v10, v11, v12, v13, v14, v15] ∧ ls.length = 3 ∧ ∀ l ∈ ls, l.length ≤ 10 + 3 * i ∧ ∀ c ∈ l, c < 1114112,
      ⟨ls, _, _, _, _, rfl, hl3, hls⟩, ?_, ?_⟩
    · rintro i x e2 hx ⟨ls, v5, v6, v7, v8, rfl, hl3, hls⟩
      obtain ⟨hi, rfl⟩ := nums_get' hx
      unfold U_law_0_b_2_b_0
      walk_at "dm"
      refine ⟨rfl, 3, rfl, by decide, by decide, fun a_ a0 a1 => ?_⟩
      obtain ⟨at_, rfl⟩ := Int.eq_ofNat_of_zero_le a0
      refine ⟨rfl, ((n + 1 : Nat) : Int), by simp, by omega, by omega, fun k_ k0 k1 => ?_⟩
      obtain ⟨k, rfl⟩ := Int.eq_ofNat_of_zero_le k0
      walk_at "dm"
      unfold U_law_0_b_2_b_1
      walk_at "dm"
      refine ⟨by decide, by decide, rfl, by decide, .inl ⟨_, .inl rfl, by simp, by simp, fun x hx => ?_⟩⟩
      obtain ⟨sg, rfl, hsg⟩ : ∃ z : List Nat, x = .str (S z) ∧ z.length ≤ 3 ∧ ∀ c ∈ z, c < 1114112 := by
        simp only [List.mem_cons, List.not_mem_nil, or_false] at hx
        rcases hx with rfl | rfl | rfl | rfl | rfl | rfl | rfl | rfl
        · exact ⟨[89], rfl, by decide⟩
        · exact ⟨[120], rfl, by decide⟩
        · exact ⟨[45], rfl, by decide⟩
        · exact ⟨[32], rfl, by decide⟩
        · exact ⟨[48], rfl, by decide⟩
        · exact ⟨[49, 49, 45], rfl, by decide⟩
        · exact ⟨[97], rfl, by decide⟩
        · exact ⟨[87], rfl, by decide⟩
      clear hx
      walk_at "dm"
      unfold U_law_0_b_2_b_2
      walk_at "dm"
      obtain ⟨l, hl⟩ : ∃ l, ls[at_]? = some l := ⟨ls[at_]'(by omega), List.getElem?_eq_getElem (by omega)⟩
      have hm := List.mem_of_getElem? hl
      obtain ⟨hll, hlc⟩ := hls l hm
      have hix : (ls.map fun l => D.str (S l))[at_]? = some (.str (S l)) := by rw [List.getElem?_map, hl]; rfl
      refine ix_at hix ?_
      walk_at "dm"
      rw [cutS_to]
      refine ⟨by rw [S_len]; omega, ?_⟩
      walk_at "dm"
      rw [S_app]
      refine ⟨by rw [S_len, S_len]; simp; omega, ix_at hix ?_⟩
      walk_at "dm"
      rw [cutS_from]
      refine ⟨by rw [S_len]; omega, ?_⟩
      walk_at "dm"
      rw [S_app]
      refine ⟨by rw [S_len, S_len]; simp; omega, ⟨_, _, rfl⟩, at_, _, _, rfl, rfl, by rw [List.length_map]; omega, ls.set at_ (l.take k ++ sg ++ l.drop k), _, _, _, _, by rw [List.map_set], by rw [List.length_set]; exact hl3, fun y hy => ?_⟩
      rcases List.mem_or_eq_of_mem_set hy with hy | rfl
      · obtain ⟨h1, h2⟩ := hls y hy
        exact ⟨by omega, h2⟩
      · refine ⟨?_, fun c hc => ?_⟩
        · rw [List.length_append, List.length_append, List.length_take, List.length_drop]
          have := hsg.1
          omega
        · rcases List.mem_append.mp hc with hc | hc
          · rcases List.mem_append.mp hc with hc | hc
            · exact hlc c (List.mem_of_mem_take hc)
            · exact hsg.2 c hc
          · exact hlc c (List.mem_of_mem_drop hc)
    · rintro x ⟨ls, v5, v6, v7, v8, rfl, hl3, hls⟩
      rw [nums_len] at hls
      walk_at "dm"
      unfold U_law_0_b_3
      walk_at "dm"
      have hl9 : ∀ l ∈ ls, l.length ≤ 16 := fun l hl => by have := (hls l hl).1; omega
      refine lc_pure ls (fun l => .str (S l)) badS (fun l => .str (S l)) (fun Q q => ?_) (by omega) (fun l hl S' T' hS hT => ?_) ?_
      · walk_at "dm"
        exact q
      · walk_at "dm"
        refine ⟨l, rfl, by have := hl9 l hl; omega, ?_⟩
        walk_at "dm"
        cases hb : badS l
        · exact hT hb
        · exact hS hb
      walk_at "dm"
      unfold U_law_0_b_4
      walk_at "dm"
      refine lc_map ls (fun l => .str (S l)) (fun l => .int ((letW l).length : Int)) (fun Q q => ?_) (by omega) (fun l hl S' hS => ?_) ?_
      · walk_at "dm"
        exact q
      · walk_at "dm"
        refine ⟨l, rfl, by have := hl9 l hl; omega, ?_⟩
        walk_at "dm"
        rw [S_len]
        exact ⟨by have := hl9 l hl; have := letW_len l; omega, hS⟩
      walk_at "dm"
      refine fSortSet_I (zs := ls.map fun l => ((letW l).length : Int)) (by rw [List.length_map]; omega) ?_ (by rw [List.map_map]; rfl) (.inl rfl)
      generalize hZ : setI (ls.map fun l => ((letW l).length : Int)) = zs
      walk_at "dm"
      have hdu : ∀ as : List Sg, ls = as.map txt → ((1 < zs.length) ↔ ¬ ∃ n, ∀ a ∈ as, a.2.length = n) := by
        rintro as rfl
        subst hZ
        rw [List.map_map]
        have e := setI_one (xs := as.map ((fun l => ((letW l).length : Int)) ∘ txt))
        constructor
        · rintro h ⟨n, hn⟩
          have := e.mpr ⟨n, fun x hx => by
            obtain ⟨a, ha, rfl⟩ := List.mem_map.mp hx
            show ((letW (txt a)).length : Int) = n
            rw [letW_txt, List.length_map, hn a ha]⟩
          omega
        · intro h
          refine Classical.byContradiction fun z => h ?_
          obtain ⟨n, hn⟩ := e.mp (by omega)
          refine ⟨n.toNat, fun a ha => ?_⟩
          have := hn _ (List.mem_map.mpr ⟨a, ha, rfl⟩)
          have h2 : ((letW (txt a)).length : Int) = n := this
          rw [letW_txt, List.length_map] at h2
          omega
      have exS : ∀ {Q : R → Prop} (l : List Nat), Q (.sh (.tup [.str "invalidstring", .str (S l)])) → xpT K e_ThreadError e_Missing (F__law_field K) Q (xStr e_InvalidString l) := fun {Q} l q => ⟨O_InvalidString, (show (["code", "value"] : List Str).Nodup by decide), _, rfl, e_InvalidString, _, O_InvalidString.2.1, O_InvalidString.2.2, .inl ⟨"value", _, by decide, N_InvalidString _ (by simp), rfl, q⟩⟩
      have exL : ∀ {Q : R → Prop}, Q (.sh (.tup [.str "lengthmismatch", .non])) → xpT K e_ThreadError e_Missing (F__law_field K) Q (xLen e_LengthMismatch) := fun {Q} q => ⟨O_LengthMismatch, (show (["code"] : List Str).Nodup by decide), _, rfl, e_LengthMismatch, _, O_LengthMismatch.2.1, O_LengthMismatch.2.2, .inr ⟨by decide, rfl, q⟩⟩
      have main : ∀ due told : List D, Due ls due told → U_law_0_b_8 K Pt e_ThreadError e_Missing e_InvalidString e_LengthMismatch {
          nx := fun x => ∃ v2 v3 v4 v5 v6 v7 v8 v9 v10 v11 v12 v13 v14 v15, x = [Sl.sh (D.tabl Pt lawLam), Sl.bag, v2, v3, v4, v5, v6, v7, v8, v9, v10, v11, v12, v13, v14, v15],
          rt := fun r x => r = R.sh (D.bl true),
          bk := U_law_1 K Pt e_ThreadError e_Missing e_InvalidString e_LengthMismatch { nx := fun x => False, rt := fun r x => r = R.sh (D.bl true) },
          ct := fun x => ∃ v2 v3 v4 v5 v6 v7 v8 v9 v10 v11 v12 v13 v14 v15, x = [Sl.sh (D.tabl Pt lawLam), Sl.bag, v2, v3, v4, v5, v6, v7, v8, v9, v10, v11, v12, v13, v14, v15] }
          [.sh (.tabl Pt lawLam), .bag, .sh (.int t), .sh (.int (n : Int)), .sh (.lst (ls.map fun l => .str (S l))), v5, v6, v7, v8, .sh (.lst ((ls.filter badS).map fun l => .str (S l))), v10, .sh (.lst (zs.map .int)), .sh (.tup due), .sh (.tup told), v14, v15] := by
        intro due told hd
        have e9 : U_law_0_b_9 K Pt e_ThreadError e_Missing e_InvalidString e_LengthMismatch {
          nx := fun x => ∃ v2 v3 v4 v5 v6 v7 v8 v9 v10 v11 v12 v13 v14 v15, x = [Sl.sh (D.tabl Pt lawLam), Sl.bag, v2, v3, v4, v5, v6, v7, v8, v9, v10, v11, v12, v13, v14, v15],
          rt := fun r x => r = R.sh (D.bl true),
          bk := U_law_1 K Pt e_ThreadError e_Missing e_InvalidString e_LengthMismatch { nx := fun x => False, rt := fun r x => r = R.sh (D.bl true) },
          ct := fun x => ∃ v2 v3 v4 v5 v6 v7 v8 v9 v10 v11 v12 v13 v14 v15, x = [Sl.sh (D.tabl Pt lawLam), Sl.bag, v2, v3, v4, v5, v6, v7, v8, v9, v10, v11, v12, v13, v14, v15] }
          [.sh (.tabl Pt lawLam), .bag, .sh (.int t), .sh (.int (n : Int)), .sh (.lst (ls.map fun l => .str (S l))), v5, v6, v7, v8, .sh (.lst ((ls.filter badS).map fun l => .str (S l))), v10, .sh (.lst (zs.map .int)), .sh (.tup due), .sh (.tup told), v14, v15] := by
          unfold U_law_0_b_9
          walk_at "dm"
          refine for_pre ls (fun l => .str (S l)) (fun pre x => ∃ v10 v12, x = [.sh (.tabl Pt lawLam), .bag, .sh (.int t), .sh (.int (n : Int)), .sh (.lst (ls.map fun l => .str (S l))), v5, v6, v7, v8, .sh (.lst ((ls.filter badS).map fun l => .str (S l))), v10, .sh (.lst (zs.map .int)), v12, .sh (.tup told), v14, v15]) (fun Q q => ?_) ⟨_, _, rfl⟩ ?_ ?_
          · walk_at "dm"
            exact q
          · rintro pre l post hp e ⟨v10, v12, rfl⟩
            have hl : l ∈ ls := by rw [hp]; simp
            have hlen := hl9 l hl
            unfold U_law_0_b_9_b_0
            walk_at "dm"
            refine ⟨l, rfl, by omega, ?_⟩
            walk_at "dm"
            cases hb : badS l
            · refine iteT rfl ⟨by decide, ?_⟩
              unfold U_law_0_b_9_b_1
              walk_at "dm"
              refine ⟨rfl, l, rfl, by omega, fun _ => ?_, fun h => by rw [hb] at h; cases h⟩
              walk_at "dm"
              refine ⟨_, rfl, rfl, ?_⟩
              walk_at "dm"
              exact ⟨_, _, rfl⟩
            · refine iteF rfl ⟨by decide, ?_⟩
              unfold U_law_0_b_9_b_1
              walk_at "dm"
              refine ⟨rfl, l, rfl, by omega, (fun h => by rw [hb] at h; cases h), fun _ => exS l ?_⟩
              walk_at "dm"
              refine ⟨_, rfl, rfl, ?_⟩
              walk_at "dm"
              exact ⟨_, _, rfl⟩
          · rintro e ⟨v10, v12, rfl⟩
            unfold U_law_0_b_10
            walk_at "dm"
            refine ⟨rfl, by decide, .inl ⟨_, .inl rfl, by simp, by simp, fun x hx => ?_⟩⟩
            obtain ⟨z, rfl, hzb, hzl, hzc⟩ : ∃ z : List Nat, x = .str (S z) ∧ badS z = true ∧ z.length ≤ 1000 ∧ ∀ c ∈ z, c < 1114112 := by
              simp only [List.mem_cons, List.not_mem_nil, or_false] at hx
              rcases hx with rfl | rfl | rfl
              · exact ⟨[81], rfl, by decide, by decide, by decide⟩
              · exact ⟨[88, 45], rfl, by decide, by decide, by decide⟩
              · exact ⟨[45, 45, 88], rfl, by decide, by decide, by decide⟩
            clear hx
            walk_at "dm"
            unfold U_law_0_b_11
            walk_at "dm"
            refine ⟨rfl, z, [88, 88], rfl, hzl, by decide, .inl ⟨hzb, exS z ?_⟩⟩
            walk_at "dm"
            refine ⟨rfl, [49], z, rfl, by decide, hzl, .inr (.inl ⟨by decide, hzb, exS z ?_⟩)⟩
            walk_at "dm"
            unfold U_law_0_b_12
            walk_at "dm"
            refine ⟨by decide, ⟨_, _, rfl⟩, rfl, [45, 88], [88, 88], rfl, by decide, by decide, .inr (.inr ⟨by decide, by decide, by decide, exL ?_⟩)⟩
            walk_at "dm"
            refine ⟨_, _, rfl, by simp, ?_⟩
            unfold U_law_0_b_13
            walk_at "dm"
            have hz1 : okN 1 (.str (S z)) = true := by
              show (S z).cps.all (· < 0x110000) = true
              simpa [S] using hzc
            have hi1 : okN 1 (.str "invalidstring") = true := by simp [okN]; decide
            have hp : okN 2 (.tup [.str "invalidstring", .str (S z)]) = true := by
              show (okN 1 (.str "invalidstring") && (okN 1 (.str (S z)) && true)) = true
              rw [hz1, hi1]; rfl
            have hq : okN 2 (.tup [.str "lengthmismatch", .non]) = true := by simp [okN]; decide
            refine ⟨by decide, by decide, _, 2, rfl, rfl, by decide, by simp, ?_⟩
            walk_at "dm"
            refine ⟨by decide, by decide, ?_⟩
            refine ⟨by simp, ne_self (n := 3) ?_ (by decide) ?_⟩
            · show (okN 2 (.tup [.str "invalidstring", .str (S z)]) && (okN 2 (.tup [.str "invalidstring", .str (S z)]) && (okN 2 (.tup [.str "lengthmismatch", .non]) && true))) = true
              rw [hp, hq]; rfl
            walk_at "dm"
            exact ⟨_, _, _, _, _, _, _, _, _, _, _, _, _, _, rfl⟩
        unfold U_law_0_b_8
        walk_at "dm"
        rcases hd with ⟨w, hw, rfl, rfl⟩ | ⟨w, hw, rfl, rfl, rfl⟩ | ⟨d, rfl, rfl⟩
        · walk_at "dm"
          refine iteF (by simp) (iteT (by simp; decide) ?_)
          have hwc : okN 1 (.str (S w)) = true := by
            have := (hls w (List.mem_of_find?_eq_some hw)).2
            show (S w).cps.all (· < 0x110000) = true
            simpa [S] using this
          refine ne_self (n := 2) (by show (okN 1 (.str "invalidstring") && (okN 1 (.str (S w)) && true)) = true; rw [hwc, show okN 1 (.str "invalidstring") = true by simp [okN]; decide]; rfl) (by decide) ?_
          walk_at "dm"
          exact e9
        · walk_at "dm"
          refine iteF (by simp) (iteT (by simp; decide) ?_)
          refine ne_self (n := 2) (by simp [okN]; decide) (by decide) ?_
          walk_at "dm"
          exact e9
        · walk_at "dm"
          refine iteF (by simp) (iteF (by simp) ?_)
          exact e9
      have b6 : ∀ d2 : List D, (∀ as : List Sg, ls = as.map txt → ((∃ n, ∀ a ∈ as, a.2.length = n) ∧ d2 = [.str "", .str ""]) ∨ ((¬ ∃ n, ∀ a ∈ as, a.2.length = n) ∧ d2 = [.str "lengthmismatch", .non])) → U_law_0_b_6 K Pt e_ThreadError e_Missing e_InvalidString e_LengthMismatch {
          nx := fun x => ∃ v2 v3 v4 v5 v6 v7 v8 v9 v10 v11 v12 v13 v14 v15, x = [Sl.sh (D.tabl Pt lawLam), Sl.bag, v2, v3, v4, v5, v6, v7, v8, v9, v10, v11, v12, v13, v14, v15],
          rt := fun r x => r = R.sh (D.bl true),
          bk := U_law_1 K Pt e_ThreadError e_Missing e_InvalidString e_LengthMismatch { nx := fun x => False, rt := fun r x => r = R.sh (D.bl true) },
          ct := fun x => ∃ v2 v3 v4 v5 v6 v7 v8 v9 v10 v11 v12 v13 v14 v15, x = [Sl.sh (D.tabl Pt lawLam), Sl.bag, v2, v3, v4, v5, v6, v7, v8, v9, v10, v11, v12, v13, v14, v15] }
          [.sh (.tabl Pt lawLam), .bag, .sh (.int t), .sh (.int (n : Int)), .sh (.lst (ls.map fun l => .str (S l))), v5, v6, v7, v8, .sh (.lst ((ls.filter badS).map fun l => .str (S l))), v10, .sh (.lst (zs.map .int)), .sh (.tup d2), v13, v14, v15] := by
        intro d2 hd2
        unfold U_law_0_b_6
        walk_at "dm"
        refine ⟨by decide, ne_nil (fun x hx => ?_) ?_⟩
        · obtain ⟨l, hl, rfl⟩ := List.mem_map.mp hx
          show (S l).cps.all (· < 0x110000) = true
          have := (hls l (List.mem_filter.mp hl |>.1)).2
          simpa [S] using this
        have tld : ∀ due : List D, ((∃ w, ls.find? badS = some w ∧ due = [.str "invalidstring", .str (S w)]) ∨ (ls.find? badS = none ∧ due = d2)) → U_law_0_b_7 K Pt e_ThreadError e_Missing e_InvalidString e_LengthMismatch {
          nx := fun x => ∃ v2 v3 v4 v5 v6 v7 v8 v9 v10 v11 v12 v13 v14 v15, x = [Sl.sh (D.tabl Pt lawLam), Sl.bag, v2, v3, v4, v5, v6, v7, v8, v9, v10, v11, v12, v13, v14, v15],
          rt := fun r x => r = R.sh (D.bl true),
          bk := U_law_1 K Pt e_ThreadError e_Missing e_InvalidString e_LengthMismatch { nx := fun x => False, rt := fun r x => r = R.sh (D.bl true) },
          ct := fun x => ∃ v2 v3 v4 v5 v6 v7 v8 v9 v10 v11 v12 v13 v14 v15, x = [Sl.sh (D.tabl Pt lawLam), Sl.bag, v2, v3, v4, v5, v6, v7, v8, v9, v10, v11, v12, v13, v14, v15] }
          [.sh (.tabl Pt lawLam), .bag, .sh (.int t), .sh (.int (n : Int)), .sh (.lst (ls.map fun l => .str (S l))), v5, v6, v7, v8, .sh (.lst ((ls.filter badS).map fun l => .str (S l))), v10, .sh (.lst (zs.map .int)), .sh (.tup due), v13, v14, v15] := by
          intro due hdue
          unfold U_law_0_b_7
          obtain ⟨l0, l1, l2, rfl⟩ : ∃ a c d, ls = [a, c, d] := by
            match ls, hl3 with
            | [a, c, d], _ => exact ⟨a, c, d, rfl⟩
          walk_at "dm"
          refine ⟨rfl, star_mulX (ls := [l0, l1, l2]) rfl (by simp) (fun l hl => by have := hl9 l hl; omega) (fun l hf => ?_) (fun as ha hn => ?_) (fun as n ha hn => ?_)⟩
          · rcases hdue with ⟨w, hw, rfl⟩ | ⟨hn, _⟩
            · rw [hf] at hw
              injection hw with hw
              subst hw
              exact exS _ (main _ _ (.inl ⟨_, hf, rfl, rfl⟩))
            · rw [hf] at hn; cases hn
          · have hf : [l0, l1, l2].find? badS = none := by
              rw [ha, List.find?_eq_none]
              intro x hx
              obtain ⟨a, _, rfl⟩ := List.mem_map.mp hx
              rw [good_txt]; decide
            rcases hdue with ⟨w, hw, _⟩ | ⟨_, rfl⟩
            · rw [hf] at hw; cases hw
            · rcases hd2 as ha with ⟨h, _⟩ | ⟨_, rfl⟩
              · exact absurd h hn
              · exact exL (main _ _ (.inr (.inl ⟨_, hf, rfl, rfl, rfl⟩)))
          · have hf : [l0, l1, l2].find? badS = none := by
              rw [ha, List.find?_eq_none]
              intro x hx
              obtain ⟨a, _, rfl⟩ := List.mem_map.mp hx
              rw [good_txt]; decide
            rcases hdue with ⟨w, hw, _⟩ | ⟨_, rfl⟩
            · rw [hf] at hw; cases hw
            · rcases hd2 as ha with ⟨_, rfl⟩ | ⟨h, _⟩
              · exact main _ _ (.inr (.inr ⟨_, rfl, rfl⟩))
              · exact absurd ⟨n, hn⟩ h
        walk_at "dm"
        cases hf : ls.filter badS with
        | nil =>
          rw [hf] at tld
          refine Eq.mpr (if_neg (by simp)) (tld _ (.inr ⟨?_, rfl⟩))
          rw [← List.head?_filter, hf]; rfl
        | cons w ws =>
          rw [hf] at tld
          refine Eq.mpr (if_pos (by simp)) ?_
          walk_at "dm"
          refine ⟨by decide, tld _ (.inl ⟨w, ?_, rfl⟩)⟩
          rw [← List.head?_filter, hf]; rfl
      unfold U_law_0_b_5
      walk_at "dm"
      by_cases hz : 1 < zs.length
      · refine iteT (decide_eq_true (by rw [List.length_map]; omega)) ⟨by decide, b6 _ fun as ha => .inr ⟨(hdu as ha).mp hz, rfl⟩⟩
      · refine iteF (decide_eq_false (by rw [List.length_map]; omega)) ⟨by decide, b6 _ fun as ha => .inl ⟨?_, rfl⟩⟩
        exact Classical.byContradiction fun z => hz ((hdu as ha).mpr z)
  · rintro e ⟨v2, v3, v4, v5, v6, v7, v8, v9, v10, v11, v12, v13, v14, v15, rfl⟩
    unfold U_law_1
    walk_at "dm"
    refine (show F_check_string e_InvalidString e_LengthMismatch [.str (S [45])] _ _ from ⟨[45], rfl, by decide, fun _ => ?_, fun h => by cases h⟩)
    walk_at "dm"
    refine Eq.mpr (if_pos rfl) (show F_check_string e_InvalidString e_LengthMismatch [.str (S [])] _ _ from ⟨[], rfl, by decide, fun _ => ?_, fun h => by cases h⟩)
    rfl
end
abbrev sE_InvalidString : Stmt := inClass (top 3) 0
theorem scE_InvalidString : FnScope ["self", "value"] ["self", "value"] (defScope sE_InvalidString) := ⟨rfl, rfl, rfl, by decide +kernel, rfl, by decide +kernel, by decide +kernel⟩
abbrev sE_LengthMismatch : Stmt := inClass (top 4) 0
theorem scE_LengthMismatch : FnScope ["self"] ["self"] (defScope sE_LengthMismatch) := ⟨rfl, rfl, rfl, by decide +kernel, rfl, by decide +kernel, by decide +kernel⟩
theorem all_mk {P : Program} {w : World} {K : PySem.W.Frag} {h : Heap} {mg : Str → Option Value} {fa : Addr} (X : K.In h) (G : h.Ns mainGlobals mg) (hfa : mg "law" = some (.ref fa))  {e_InvalidString e_LengthMismatch e_ThreadError e_Missing fI_InvalidString fI_LengthMismatch cTab Ptab : Addr} {ocT : Value} {odT : Option Addr} {slT : Array (Option Value)} {vsT : Array Value} {tk_LETTERS : Tok} {d_BITS : Addr} {n_BITS : Nat} {es_BITS : Array DictEntry} {t_BITS_0 : Addr} {o_BITS_0 : Option Addr} {m_BITS_0 : Nat} {sl_BITS_0 : Array (Option Value)} {tk0_BITS_0 tk1_BITS_0 : Tok} {t_BITS_1 : Addr} {o_BITS_1 : Option Addr} {m_BITS_1 : Nat} {sl_BITS_1 : Array (Option Value)} {tk0_BITS_1 tk1_BITS_1 : Tok} {t_BITS_2 : Addr} {o_BITS_2 : Option Addr} {m_BITS_2 : Nat} {sl_BITS_2 : Array (Option Value)} {tk0_BITS_2 tk1_BITS_2 : Tok} {t_BITS_3 : Addr} {o_BITS_3 : Option Addr} {m_BITS_3 : Nat} {sl_BITS_3 : Array (Option Value)} {tk0_BITS_3 tk1_BITS_3 : Tok} {d_FROM_BITS : Addr} {n_FROM_BITS : Nat} {h_FROM_BITS_0 : Int} {t_FROM_BITS_0 : Addr} {o_FROM_BITS_0 : Option Addr} {m_FROM_BITS_0 : Nat} {sl_FROM_BITS_0 : Array (Option Value)} {tk_FROM_BITS_0 tk0_FROM_BITS_0 tk1_FROM_BITS_0 : Tok} {h_FROM_BITS_1 : Int} {t_FROM_BITS_1 : Addr} {o_FROM_BITS_1 : Option Addr} {m_FROM_BITS_1 : Nat} {sl_FROM_BITS_1 : Array (Option Value)} {tk_FROM_BITS_1 tk0_FROM_BITS_1 tk1_FROM_BITS_1 : Tok} {h_FROM_BITS_2 : Int} {t_FROM_BITS_2 : Addr} {o_FROM_BITS_2 : Option Addr} {m_FROM_BITS_2 : Nat} {sl_FROM_BITS_2 : Array (Option Value)} {tk_FROM_BITS_2 tk0_FROM_BITS_2 tk1_FROM_BITS_2 : Tok} {h_FROM_BITS_3 : Int} {t_FROM_BITS_3 : Addr} {o_FROM_BITS_3 : Option Addr} {m_FROM_BITS_3 : Nat} {sl_FROM_BITS_3 : Array (Option Value)} {tk_FROM_BITS_3 tk0_FROM_BITS_3 tk1_FROM_BITS_3 : Tok} {f0 f1 f2 f3 f4 f5 f6 f7 f8 f9 f10 f11 f12 f13 f14 f15 f16 f17 : Addr} {od0 an0 od1 an1 od2 an2 od3 an3 od4 an4 od5 an5 od6 an6 od7 an7 od8 an8 od9 an9 od10 an10 od11 an11 od12 an12 od13 an13 od14 an14 od15 an15 od16 an16 od17 an17 : Option Addr} {sl0 sl1 sl2 sl3 sl4 sl5 sl6 sl7 sl8 sl9 sl10 sl11 sl12 sl13 sl14 sl15 sl16 sl17 : Array (Option Value)} {oc0 kV0 dc0 pm0 cd0 ct0 oc1 kV1 dc1 pm1 cd1 ct1 oc2 kV2 dc2 pm2 cd2 ct2 oc3 kV3 dc3 pm3 cd3 ct3 oc4 kV4 dc4 pm4 cd4 ct4 oc5 kV5 dc5 pm5 cd5 ct5 oc6 kV6 dc6 pm6 cd6 ct6 oc7 kV7 dc7 pm7 cd7 ct7 oc8 kV8 dc8 pm8 cd8 ct8 oc9 kV9 dc9 pm9 cd9 ct9 oc10 kV10 dc10 pm10 cd10 ct10 oc11 kV11 dc11 pm11 cd11 ct11 oc12 kV12 dc12 pm12 cd12 ct12 oc13 kV13 dc13 pm13 cd13 ct13 oc14 kV14 dc14 pm14 cd14 ct14 oc15 kV15 dc15 pm15 cd15 ct15 oc16 kV16 dc16 pm16 cd16 ct16 oc17 kV17 dc17 pm17 ct17 : Value} {nm_InvalidString : Str} {q_InvalidString : Str} {N_InvalidString : Addr} {bs_InvalidString : List Value} {sn_InvalidString : List Str} {sub_InvalidString : List Value} {ab_InvalidString : Bool} {col_InvalidString : Option Bool} {dd_InvalidString : Option Addr} {m0_InvalidString m1_InvalidString m2_InvalidString m3_InvalidString m5_InvalidString : Option Value} {ocE_InvalidString kVE_InvalidString dcE_InvalidString pmE_InvalidString cdE_InvalidString ctE_InvalidString : Value} {odE_InvalidString anE_InvalidString : Option Addr} {slE_InvalidString : Array (Option Value)} {nm_LengthMismatch : Str} {q_LengthMismatch : Str} {N_LengthMismatch : Addr} {bs_LengthMismatch : List Value} {sn_LengthMismatch : List Str} {sub_LengthMismatch : List Value} {ab_LengthMismatch : Bool} {col_LengthMismatch : Option Bool} {dd_LengthMismatch : Option Addr} {m0_LengthMismatch m1_LengthMismatch m2_LengthMismatch m3_LengthMismatch m5_LengthMismatch : Option Value} {ocE_LengthMismatch kVE_LengthMismatch dcE_LengthMismatch pmE_LengthMismatch cdE_LengthMismatch ctE_LengthMismatch : Value} {odE_LengthMismatch anE_LengthMismatch : Option Addr} {slE_LengthMismatch : Array (Option Value)}
    (x_InvalidString : PySem.W.nsIn K mainGlobals "InvalidString" = some (some (.ref e_InvalidString))) (xL_InvalidString : K.lookup e_InvalidString = some (excClassObj nm_InvalidString q_InvalidString e_InvalidString N_InvalidString bs_InvalidString [.ref e_ThreadError, .type "ValueError", .type "Exception", .type "BaseException", .type "object"] true sn_InvalidString sub_InvalidString ab_InvalidString col_InvalidString dd_InvalidString m0_InvalidString m1_InvalidString m2_InvalidString m3_InvalidString m5_InvalidString "ValueError.__new__"))
    (xs_InvalidString : PySem.W.findIn K (.ref e_InvalidString) "__setattr__" = some (some (.builtin "object.__setattr__"))) (xg_InvalidString : PySem.W.findIn K (.ref e_InvalidString) "__getattribute__" = some (some (.builtin "BaseException.__getattribute__"))) (xa_InvalidString : PySem.W.findIn K (.ref e_InvalidString) "__getattr__" = some none)
    (xb_InvalidString : PySem.W.subIn K (.ref e_InvalidString) (.type "BaseException") = some true) (xt_InvalidString : PySem.W.typeIn K (.ref e_InvalidString) = some (.type "type")) (xk_InvalidString : PySem.W.keepIn K (.ref e_InvalidString) = true) (xd_InvalidString : PySem.W.hasDictIn K e_InvalidString = true)
    (xi_InvalidString : PySem.W.findIn K (.ref e_InvalidString) "__init__" = some (some (.ref fI_InvalidString))) (xj_InvalidString : PySem.W.typeIn K (.ref fI_InvalidString) = some (.type "function"))
    (xl_InvalidString : K.lookup fI_InvalidString = some ⟨ocE_InvalidString, odE_InvalidString, .func (PySem.W.fnOf "__init__" "InvalidString.__init__" (defArgs sE_InvalidString) (defBody sE_InvalidString) (defScope sE_InvalidString) .none kVE_InvalidString dcE_InvalidString pmE_InvalidString anE_InvalidString cdE_InvalidString ctE_InvalidString), slE_InvalidString⟩) (xc_InvalidString : PySem.W.codeIn K cdE_InvalidString "InvalidString.__init__" = true) (xn_InvalidString : PySem.W.keepIn K (.ref fI_InvalidString) = true)
    (xf_InvalidString_code : PySem.W.findIn K (.ref e_InvalidString) "code" = some none)
    (xf_InvalidString_value : PySem.W.findIn K (.ref e_InvalidString) "value" = some none)
    (xu_InvalidString : PySem.W.subIn K (.ref e_InvalidString) (.ref e_ThreadError) = some true)
    (x_LengthMismatch : PySem.W.nsIn K mainGlobals "LengthMismatch" = some (some (.ref e_LengthMismatch))) (xL_LengthMismatch : K.lookup e_LengthMismatch = some (excClassObj nm_LengthMismatch q_LengthMismatch e_LengthMismatch N_LengthMismatch bs_LengthMismatch [.ref e_ThreadError, .type "ValueError", .type "Exception", .type "BaseException", .type "object"] true sn_LengthMismatch sub_LengthMismatch ab_LengthMismatch col_LengthMismatch dd_LengthMismatch m0_LengthMismatch m1_LengthMismatch m2_LengthMismatch m3_LengthMismatch m5_LengthMismatch "ValueError.__new__"))
    (xs_LengthMismatch : PySem.W.findIn K (.ref e_LengthMismatch) "__setattr__" = some (some (.builtin "object.__setattr__"))) (xg_LengthMismatch : PySem.W.findIn K (.ref e_LengthMismatch) "__getattribute__" = some (some (.builtin "BaseException.__getattribute__"))) (xa_LengthMismatch : PySem.W.findIn K (.ref e_LengthMismatch) "__getattr__" = some none)
    (xb_LengthMismatch : PySem.W.subIn K (.ref e_LengthMismatch) (.type "BaseException") = some true) (xt_LengthMismatch : PySem.W.typeIn K (.ref e_LengthMismatch) = some (.type "type")) (xk_LengthMismatch : PySem.W.keepIn K (.ref e_LengthMismatch) = true) (xd_LengthMismatch : PySem.W.hasDictIn K e_LengthMismatch = true)
    (xi_LengthMismatch : PySem.W.findIn K (.ref e_LengthMismatch) "__init__" = some (some (.ref fI_LengthMismatch))) (xj_LengthMismatch : PySem.W.typeIn K (.ref fI_LengthMismatch) = some (.type "function"))
    (xl_LengthMismatch : K.lookup fI_LengthMismatch = some ⟨ocE_LengthMismatch, odE_LengthMismatch, .func (PySem.W.fnOf "__init__" "LengthMismatch.__init__" (defArgs sE_LengthMismatch) (defBody sE_LengthMismatch) (defScope sE_LengthMismatch) .none kVE_LengthMismatch dcE_LengthMismatch pmE_LengthMismatch anE_LengthMismatch cdE_LengthMismatch ctE_LengthMismatch), slE_LengthMismatch⟩) (xc_LengthMismatch : PySem.W.codeIn K cdE_LengthMismatch "LengthMismatch.__init__" = true) (xn_LengthMismatch : PySem.W.keepIn K (.ref fI_LengthMismatch) = true)
    (xf_LengthMismatch_code : PySem.W.findIn K (.ref e_LengthMismatch) "code" = some none)
    (xu_LengthMismatch : PySem.W.subIn K (.ref e_LengthMismatch) (.ref e_ThreadError) = some true)
    (x_ThreadError : PySem.W.nsIn K mainGlobals "ThreadError" = some (some (.ref e_ThreadError))) (xb_ThreadError : PySem.W.subIn K (.ref e_ThreadError) (.type "BaseException") = some true) (xt_ThreadError : PySem.W.typeIn K (.ref e_ThreadError) = some (.type "type")) (xd_ThreadError : PySem.W.hasDictIn K e_ThreadError = true)
    (x_Missing : PySem.W.nsIn K mainGlobals "Missing" = some (some (.ref e_Missing))) (xb_Missing : PySem.W.subIn K (.ref e_Missing) (.type "BaseException") = some true) (xt_Missing : PySem.W.typeIn K (.ref e_Missing) = some (.type "type")) (xd_Missing : PySem.W.hasDictIn K e_Missing = true)
    (a0 : PySem.W.nsIn K mainGlobals "_law_bag" = some (some (.ref f0)))
    (l0 : K.lookup f0 = some ⟨oc0, od0, .func (PySem.W.fnOf "_law_bag" "_law_bag" (defArgs s__law_bag) (defBody s__law_bag) (defScope s__law_bag) .none kV0 dc0 pm0 an0 cd0 ct0), sl0⟩) (c0 : PySem.W.codeIn K cd0 "_law_bag" = true) (k0 : PySem.W.keepIn K (.ref f0) = true)
    (a1 : PySem.W.nsIn K mainGlobals "_law_pull" = some (some (.ref f1)))
    (l1 : K.lookup f1 = some ⟨oc1, od1, .func (PySem.W.fnOf "_law_pull" "_law_pull" (defArgs s__law_pull) (defBody s__law_pull) (defScope s__law_pull) .none kV1 dc1 pm1 an1 cd1 ct1), sl1⟩) (c1 : PySem.W.codeIn K cd1 "_law_pull" = true) (k1 : PySem.W.keepIn K (.ref f1) = true)
    (a2 : PySem.W.nsIn K mainGlobals "_law_field" = some (some (.ref f2)))
    (l2 : K.lookup f2 = some ⟨oc2, od2, .func (PySem.W.fnOf "_law_field" "_law_field" (defArgs s__law_field) (defBody s__law_field) (defScope s__law_field) .none kV2 dc2 pm2 an2 cd2 ct2), sl2⟩) (c2 : PySem.W.codeIn K cd2 "_law_field" = true) (k2 : PySem.W.keepIn K (.ref f2) = true)
    (a3 : PySem.W.nsIn K mainGlobals "_law_tried" = some (some (.ref f3)))
    (l3 : K.lookup f3 = some ⟨oc3, od3, .func (PySem.W.fnOf "_law_tried" "_law_tried" (defArgs s__law_tried) (defBody s__law_tried) (defScope s__law_tried) .none kV3 dc3 pm3 an3 cd3 ct3), sl3⟩) (c3 : PySem.W.codeIn K cd3 "_law_tried" = true) (k3 : PySem.W.keepIn K (.ref f3) = true)
    (a4 : PySem.W.nsIn K mainGlobals "_law_of" = some (some (.ref f4)))
    (l4 : K.lookup f4 = some ⟨oc4, od4, .func (PySem.W.fnOf "_law_of" "_law_of" (defArgs s__law_of) (defBody s__law_of) (defScope s__law_of) .none kV4 dc4 pm4 an4 cd4 ct4), sl4⟩) (c4 : PySem.W.codeIn K cd4 "_law_of" = true) (k4 : PySem.W.keepIn K (.ref f4) = true)
    (a5 : PySem.W.nsIn K mainGlobals "_law_signed" = some (some (.ref f5)))
    (l5 : K.lookup f5 = some ⟨oc5, od5, .func (PySem.W.fnOf "_law_signed" "_law_signed" (defArgs s__law_signed) (defBody s__law_signed) (defScope s__law_signed) .none kV5 dc5 pm5 an5 cd5 ct5), sl5⟩) (c5 : PySem.W.codeIn K cd5 "_law_signed" = true) (k5 : PySem.W.keepIn K (.ref f5) = true)
    (a6 : PySem.W.nsIn K mainGlobals "_law_string" = some (some (.ref f6)))
    (l6 : K.lookup f6 = some ⟨oc6, od6, .func (PySem.W.fnOf "_law_string" "_law_string" (defArgs s__law_string) (defBody s__law_string) (defScope s__law_string) .none kV6 dc6 pm6 an6 cd6 ct6), sl6⟩) (c6 : PySem.W.codeIn K cd6 "_law_string" = true) (k6 : PySem.W.keepIn K (.ref f6) = true)
    (a7 : PySem.W.nsIn K mainGlobals "check_string" = some (some (.ref f7)))
    (l7 : K.lookup f7 = some ⟨oc7, od7, .func (PySem.W.fnOf "check_string" "check_string" (defArgs s_check_string) (defBody s_check_string) (defScope s_check_string) .none kV7 dc7 pm7 an7 cd7 ct7), sl7⟩) (c7 : PySem.W.codeIn K cd7 "check_string" = true) (k7 : PySem.W.keepIn K (.ref f7) = true)
    (a8 : PySem.W.nsIn K mainGlobals "identity" = some (some (.ref f8)))
    (l8 : K.lookup f8 = some ⟨oc8, od8, .func (PySem.W.fnOf "identity" "identity" (defArgs s_identity) (defBody s_identity) (defScope s_identity) .none kV8 dc8 pm8 an8 cd8 ct8), sl8⟩) (c8 : PySem.W.codeIn K cd8 "identity" = true) (k8 : PySem.W.keepIn K (.ref f8) = true)
    (a9 : PySem.W.nsIn K mainGlobals "split_sign" = some (some (.ref f9)))
    (l9 : K.lookup f9 = some ⟨oc9, od9, .func (PySem.W.fnOf "split_sign" "split_sign" (defArgs s_split_sign) (defBody s_split_sign) (defScope s_split_sign) .none kV9 dc9 pm9 an9 cd9 ct9), sl9⟩) (c9 : PySem.W.codeIn K cd9 "split_sign" = true) (k9 : PySem.W.keepIn K (.ref f9) = true)
    (a10 : PySem.W.nsIn K mainGlobals "joined" = some (some (.ref f10)))
    (l10 : K.lookup f10 = some ⟨oc10, od10, .func (PySem.W.fnOf "joined" "joined" (defArgs s_joined) (defBody s_joined) (defScope s_joined) .none kV10 dc10 pm10 an10 cd10 ct10), sl10⟩) (c10 : PySem.W.codeIn K cd10 "joined" = true) (k10 : PySem.W.keepIn K (.ref f10) = true)
    (a11 : PySem.W.nsIn K mainGlobals "times" = some (some (.ref f11)))
    (l11 : K.lookup f11 = some ⟨oc11, od11, .func (PySem.W.fnOf "times" "times" (defArgs s_times) (defBody s_times) (defScope s_times) .none kV11 dc11 pm11 an11 cd11 ct11), sl11⟩) (c11 : PySem.W.codeIn K cd11 "times" = true) (k11 : PySem.W.keepIn K (.ref f11) = true)
    (a12 : PySem.W.nsIn K mainGlobals "multiply" = some (some (.ref f12)))
    (l12 : K.lookup f12 = some ⟨oc12, od12, .func (PySem.W.fnOf "multiply" "multiply" (defArgs s_multiply) (defBody s_multiply) (defScope s_multiply) .none kV12 dc12 pm12 an12 cd12 ct12), sl12⟩) (c12 : PySem.W.codeIn K cd12 "multiply" = true) (k12 : PySem.W.keepIn K (.ref f12) = true)
    (a13 : PySem.W.nsIn K mainGlobals "_law_body" = some (some (.ref f13)))
    (l13 : K.lookup f13 = some ⟨oc13, od13, .func (PySem.W.fnOf "_law_body" "_law_body" (defArgs s__law_body) (defBody s__law_body) (defScope s__law_body) .none kV13 dc13 pm13 an13 cd13 ct13), sl13⟩) (c13 : PySem.W.codeIn K cd13 "_law_body" = true) (k13 : PySem.W.keepIn K (.ref f13) = true)
    (a14 : PySem.W.nsIn K mainGlobals "_law_is_string" = some (some (.ref f14)))
    (l14 : K.lookup f14 = some ⟨oc14, od14, .func (PySem.W.fnOf "_law_is_string" "_law_is_string" (defArgs s__law_is_string) (defBody s__law_is_string) (defScope s__law_is_string) .none kV14 dc14 pm14 an14 cd14 ct14), sl14⟩) (c14 : PySem.W.codeIn K cd14 "_law_is_string" = true) (k14 : PySem.W.keepIn K (.ref f14) = true)
    (a15 : PySem.W.nsIn K mainGlobals "_law_same" = some (some (.ref f15)))
    (l15 : K.lookup f15 = some ⟨oc15, od15, .func (PySem.W.fnOf "_law_same" "_law_same" (defArgs s__law_same) (defBody s__law_same) (defScope s__law_same) .none kV15 dc15 pm15 an15 cd15 ct15), sl15⟩) (c15 : PySem.W.codeIn K cd15 "_law_same" = true) (k15 : PySem.W.keepIn K (.ref f15) = true)
    (a16 : PySem.W.nsIn K mainGlobals "commute" = some (some (.ref f16)))
    (l16 : K.lookup f16 = some ⟨oc16, od16, .func (PySem.W.fnOf "commute" "commute" (defArgs s_commute) (defBody s_commute) (defScope s_commute) .none kV16 dc16 pm16 an16 cd16 ct16), sl16⟩) (c16 : PySem.W.codeIn K cd16 "commute" = true) (k16 : PySem.W.keepIn K (.ref f16) = true)
    (a17 : PySem.W.nsIn K mainGlobals "law" = some (some (.ref f17)))
    (l17 : K.lookup f17 = some ⟨oc17, od17, .func (PySem.W.fnOf "law" "law" (defArgs s_law) (defBody s_law) (defScope s_law) .none kV17 dc17 pm17 an17 (.ref cTab) ct17), sl17⟩) (c17 : PySem.W.codeIn K (.ref cTab) "law" = true) (k17 : PySem.W.keepIn K (.ref f17) = true)
    (lT : K.lookup cTab = some ⟨ocT, odT, .fields vsT, slT⟩) (vT : vsT[11]? = some (.ref Ptab)) (nT : K.lookup Ptab = none)
    (z_all : PySem.W.nsIn K mainGlobals "all" = some none)
    (z_bool : PySem.W.nsIn K mainGlobals "bool" = some none)
    (z_dict : PySem.W.nsIn K mainGlobals "dict" = some none)
    (z_int : PySem.W.nsIn K mainGlobals "int" = some none)
    (z_isinstance : PySem.W.nsIn K mainGlobals "isinstance" = some none)
    (z_len : PySem.W.nsIn K mainGlobals "len" = some none)
    (z_list : PySem.W.nsIn K mainGlobals "list" = some none)
    (z_range : PySem.W.nsIn K mainGlobals "range" = some none)
    (z_set : PySem.W.nsIn K mainGlobals "set" = some none)
    (z_sorted : PySem.W.nsIn K mainGlobals "sorted" = some none)
    (z_str : PySem.W.nsIn K mainGlobals "str" = some none)
    (z_tuple : PySem.W.nsIn K mainGlobals "tuple" = some none)
    (z_zip : PySem.W.nsIn K mainGlobals "zip" = some none)
    (g_LETTERS : PySem.W.nsIn K mainGlobals "LETTERS" = some (some (.str "1XZW" tk_LETTERS)))
    (q_BITS : PySem.W.nsIn K mainGlobals "BITS" = some (some (.ref d_BITS)))
    (ql_BITS : K.lookup d_BITS = some ⟨.type "dict", none, .dict es_BITS n_BITS, #[]⟩) (qk_BITS : PySem.W.KeysLit w.params es_BITS.toList)
    (qe_BITS_0 : PySem.W.nsIn K d_BITS "1" = some (some (.ref t_BITS_0))) (qt_BITS_0 : K.lookup t_BITS_0 = some ⟨.type "tuple", o_BITS_0, .seq #[.int 0 tk0_BITS_0, .int 0 tk1_BITS_0] m_BITS_0, sl_BITS_0⟩)
    (qe_BITS_1 : PySem.W.nsIn K d_BITS "X" = some (some (.ref t_BITS_1))) (qt_BITS_1 : K.lookup t_BITS_1 = some ⟨.type "tuple", o_BITS_1, .seq #[.int 1 tk0_BITS_1, .int 0 tk1_BITS_1] m_BITS_1, sl_BITS_1⟩)
    (qe_BITS_2 : PySem.W.nsIn K d_BITS "Z" = some (some (.ref t_BITS_2))) (qt_BITS_2 : K.lookup t_BITS_2 = some ⟨.type "tuple", o_BITS_2, .seq #[.int 0 tk0_BITS_2, .int 1 tk1_BITS_2] m_BITS_2, sl_BITS_2⟩)
    (qe_BITS_3 : PySem.W.nsIn K d_BITS "W" = some (some (.ref t_BITS_3))) (qt_BITS_3 : K.lookup t_BITS_3 = some ⟨.type "tuple", o_BITS_3, .seq #[.int 1 tk0_BITS_3, .int 1 tk1_BITS_3] m_BITS_3, sl_BITS_3⟩)
    (q_FROM_BITS : PySem.W.nsIn K mainGlobals "FROM_BITS" = some (some (.ref d_FROM_BITS)))
    (ql_FROM_BITS : K.lookup d_FROM_BITS = some ⟨.type "dict", none, .dict #[⟨h_FROM_BITS_0, .ref t_FROM_BITS_0, .str "1" tk_FROM_BITS_0⟩, ⟨h_FROM_BITS_1, .ref t_FROM_BITS_1, .str "X" tk_FROM_BITS_1⟩, ⟨h_FROM_BITS_2, .ref t_FROM_BITS_2, .str "Z" tk_FROM_BITS_2⟩, ⟨h_FROM_BITS_3, .ref t_FROM_BITS_3, .str "W" tk_FROM_BITS_3⟩] n_FROM_BITS, #[]⟩)
    (qt_FROM_BITS_0 : K.lookup t_FROM_BITS_0 = some ⟨.type "tuple", o_FROM_BITS_0, .seq #[.int 0 tk0_FROM_BITS_0, .int 0 tk1_FROM_BITS_0] m_FROM_BITS_0, sl_FROM_BITS_0⟩) (qh_FROM_BITS_0 : (KeyW P w).hash [.inl 0, .inl 0] = h_FROM_BITS_0)
    (qt_FROM_BITS_1 : K.lookup t_FROM_BITS_1 = some ⟨.type "tuple", o_FROM_BITS_1, .seq #[.int 1 tk0_FROM_BITS_1, .int 0 tk1_FROM_BITS_1] m_FROM_BITS_1, sl_FROM_BITS_1⟩) (qh_FROM_BITS_1 : (KeyW P w).hash [.inl 1, .inl 0] = h_FROM_BITS_1)
    (qt_FROM_BITS_2 : K.lookup t_FROM_BITS_2 = some ⟨.type "tuple", o_FROM_BITS_2, .seq #[.int 0 tk0_FROM_BITS_2, .int 1 tk1_FROM_BITS_2] m_FROM_BITS_2, sl_FROM_BITS_2⟩) (qh_FROM_BITS_2 : (KeyW P w).hash [.inl 0, .inl 1] = h_FROM_BITS_2)
    (qt_FROM_BITS_3 : K.lookup t_FROM_BITS_3 = some ⟨.type "tuple", o_FROM_BITS_3, .seq #[.int 1 tk0_FROM_BITS_3, .int 1 tk1_FROM_BITS_3] m_FROM_BITS_3, sl_FROM_BITS_3⟩) (qh_FROM_BITS_3 : (KeyW P w).hash [.inl 1, .inl 1] = h_FROM_BITS_3) :
    ∃ (fd : FuncData) (c Pt : Addr), PySem.W.tabIn K "law" = some (c, Pt) ∧ K.lookup Pt = none ∧ (∀ (s : Shared) (v : Value), BindsTo s fd ⟨[v], []⟩ [("_law_script", v)]) ∧ ∀ base : Heap, K.In base → base.Ns mainGlobals mg → LamX.TabB base mg c Pt → FnOk P w K mg base CX0 10 fa fd ["_law_script"] (spLawT K Pt) := by
  have e := hfa.symm.trans (PySem.W.mg_of X G a17)
  cases e
  have B : Bt mg := ⟨PySem.W.mg_none_of X G z_all, PySem.W.mg_none_of X G z_bool, PySem.W.mg_none_of X G z_dict, PySem.W.mg_none_of X G z_int, PySem.W.mg_none_of X G z_isinstance, PySem.W.mg_none_of X G z_len, PySem.W.mg_none_of X G z_list, PySem.W.mg_none_of X G z_range, PySem.W.mg_none_of X G z_set, PySem.W.mg_none_of X G z_sorted, PySem.W.mg_none_of X G z_str, PySem.W.mg_none_of X G z_tuple, PySem.W.mg_none_of X G z_zip, ⟨_, PySem.W.mg_of X G g_LETTERS, ⟨_, rfl⟩⟩⟩
  have Gd : GdC P K w mg := ⟨kdS_mk X G q_BITS ql_BITS qk_BITS (fun z v m => by
      unfold c_BITS at m
      rcases List.mem_cons.mp m with h | m
      · cases h
        exact ⟨_, .ref t_BITS_0, qe_BITS_0, rfl, rep_tupK (ks := [0, 0]) qt_BITS_0 (show 2 ≤ sizeLine by rw [sizeLine_eq]; decide) (.cons ⟨_, rfl⟩ (.cons ⟨_, rfl⟩ .nil))⟩
      rcases List.mem_cons.mp m with h | m
      · cases h
        exact ⟨_, .ref t_BITS_1, qe_BITS_1, rfl, rep_tupK (ks := [1, 0]) qt_BITS_1 (show 2 ≤ sizeLine by rw [sizeLine_eq]; decide) (.cons ⟨_, rfl⟩ (.cons ⟨_, rfl⟩ .nil))⟩
      rcases List.mem_cons.mp m with h | m
      · cases h
        exact ⟨_, .ref t_BITS_2, qe_BITS_2, rfl, rep_tupK (ks := [0, 1]) qt_BITS_2 (show 2 ≤ sizeLine by rw [sizeLine_eq]; decide) (.cons ⟨_, rfl⟩ (.cons ⟨_, rfl⟩ .nil))⟩
      rcases List.mem_cons.mp m with h | m
      · cases h
        exact ⟨_, .ref t_BITS_3, qe_BITS_3, rfl, rep_tupK (ks := [1, 1]) qt_BITS_3 (show 2 ≤ sizeLine by rw [sizeLine_eq]; decide) (.cons ⟨_, rfl⟩ (.cons ⟨_, rfl⟩ .nil))⟩
      exact absurd m List.not_mem_nil),
    kdT_mk [([0, 0], t_FROM_BITS_0, .str "1" tk_FROM_BITS_0), ([1, 0], t_FROM_BITS_1, .str "X" tk_FROM_BITS_1), ([0, 1], t_FROM_BITS_2, .str "Z" tk_FROM_BITS_2), ([1, 1], t_FROM_BITS_3, .str "W" tk_FROM_BITS_3)] X G q_FROM_BITS ql_FROM_BITS (by cases qh_FROM_BITS_0; cases qh_FROM_BITS_1; cases qh_FROM_BITS_2; cases qh_FROM_BITS_3; rfl) (show ([[0, 0], [1, 0], [0, 1], [1, 1]] : List (List Int)).Nodup by decide) (fun p m => by
      rcases List.mem_cons.mp m with h | m
      · cases h
        exact ⟨_, _, _, _, qt_FROM_BITS_0, (.cons ⟨_, rfl⟩ (.cons ⟨_, rfl⟩ .nil))⟩
      rcases List.mem_cons.mp m with h | m
      · cases h
        exact ⟨_, _, _, _, qt_FROM_BITS_1, (.cons ⟨_, rfl⟩ (.cons ⟨_, rfl⟩ .nil))⟩
      rcases List.mem_cons.mp m with h | m
      · cases h
        exact ⟨_, _, _, _, qt_FROM_BITS_2, (.cons ⟨_, rfl⟩ (.cons ⟨_, rfl⟩ .nil))⟩
      rcases List.mem_cons.mp m with h | m
      · cases h
        exact ⟨_, _, _, _, qt_FROM_BITS_3, (.cons ⟨_, rfl⟩ (.cons ⟨_, rfl⟩ .nil))⟩
      exact absurd m List.not_mem_nil) (fun z v m => by
      unfold c_FROM_BITS at m
      rcases List.mem_cons.mp m with h | m
      · cases h
        exact ⟨(t_FROM_BITS_0, .str "1" tk_FROM_BITS_0), .str "1", .head _, ⟨_, rfl⟩, fun _ => rfl⟩
      rcases List.mem_cons.mp m with h | m
      · cases h
        exact ⟨(t_FROM_BITS_1, .str "X" tk_FROM_BITS_1), .str "X", .tail _ (.head _), ⟨_, rfl⟩, fun _ => rfl⟩
      rcases List.mem_cons.mp m with h | m
      · cases h
        exact ⟨(t_FROM_BITS_2, .str "Z" tk_FROM_BITS_2), .str "Z", .tail _ (.tail _ (.head _)), ⟨_, rfl⟩, fun _ => rfl⟩
      rcases List.mem_cons.mp m with h | m
      · cases h
        exact ⟨(t_FROM_BITS_3, .str "W" tk_FROM_BITS_3), .str "W", .tail _ (.tail _ (.tail _ (.head _))), ⟨_, rfl⟩, fun _ => rfl⟩
      exact absurd m List.not_mem_nil)⟩
  have T_InvalidString : OexC K e_InvalidString := ⟨⟨_, _, _, _, _, _, _, _, _, _, _, _, _, _, _, xL_InvalidString, rfl⟩, xs_InvalidString, xb_InvalidString, xt_InvalidString, xk_InvalidString⟩
  have FE_InvalidString : Fun K "__init__" "InvalidString.__init__" sE_InvalidString fI_InvalidString (PySem.W.fnOf "__init__" "InvalidString.__init__" (defArgs sE_InvalidString) (defBody sE_InvalidString) (defScope sE_InvalidString) .none kVE_InvalidString dcE_InvalidString pmE_InvalidString anE_InvalidString cdE_InvalidString ctE_InvalidString) := fun_mkI xl_InvalidString xc_InvalidString xn_InvalidString
  have E_InvalidString : ∀ base : Heap, KnownE P w K mg base "InvalidString" e_InvalidString 1 ["self", "value"] (fE2 "value" "code" "invalidstring") := fun base => ⟨_, _, fnE2 FE_InvalidString scE_InvalidString T_InvalidString xf_InvalidString_value xf_InvalidString_code (by decide) rfl (.inl rfl) (.inl rfl) (by decide) (by decide) (fun _ _ _ _ _ _ => rfl) (fun _ _ _ _ _ _ => rfl), T_InvalidString, xi_InvalidString, xj_InvalidString, FE_InvalidString.binds (ps := ["self", "value"]) fun _ _ _ _ _ _ us hl => (match us, hl with | [_, _], _ => rfl), PySem.W.mg_of X G x_InvalidString⟩
  have O_InvalidString : XOk K e_ThreadError e_Missing e_InvalidString := xok1 xb_ThreadError xd_ThreadError xt_ThreadError xu_InvalidString (xf_mk xg_InvalidString xa_InvalidString xb_InvalidString xd_InvalidString) xf_InvalidString_code
  have N_InvalidString : ∀ f ∈ [("code" : Str), ("value" : Str)], PySem.W.findIn K (.ref e_InvalidString) f = some none := by
    intro f hf
    simp only [List.mem_cons, List.not_mem_nil, or_false] at hf
    rcases hf with rfl | rfl
    · exact xf_InvalidString_code
    · exact xf_InvalidString_value
  have T_LengthMismatch : OexC K e_LengthMismatch := ⟨⟨_, _, _, _, _, _, _, _, _, _, _, _, _, _, _, xL_LengthMismatch, rfl⟩, xs_LengthMismatch, xb_LengthMismatch, xt_LengthMismatch, xk_LengthMismatch⟩
  have FE_LengthMismatch : Fun K "__init__" "LengthMismatch.__init__" sE_LengthMismatch fI_LengthMismatch (PySem.W.fnOf "__init__" "LengthMismatch.__init__" (defArgs sE_LengthMismatch) (defBody sE_LengthMismatch) (defScope sE_LengthMismatch) .none kVE_LengthMismatch dcE_LengthMismatch pmE_LengthMismatch anE_LengthMismatch cdE_LengthMismatch ctE_LengthMismatch) := fun_mkI xl_LengthMismatch xc_LengthMismatch xn_LengthMismatch
  have E_LengthMismatch : ∀ base : Heap, KnownE P w K mg base "LengthMismatch" e_LengthMismatch 1 ["self"] (fE1 "code" "lengthmismatch") := fun base => ⟨_, _, fnE1 FE_LengthMismatch scE_LengthMismatch T_LengthMismatch xf_LengthMismatch_code rfl (.inl rfl) (fun _ _ _ _ _ _ => rfl), T_LengthMismatch, xi_LengthMismatch, xj_LengthMismatch, FE_LengthMismatch.binds (ps := ["self"]) fun _ _ _ _ _ _ us hl => (match us, hl with | [_], _ => rfl), PySem.W.mg_of X G x_LengthMismatch⟩
  have O_LengthMismatch : XOk K e_ThreadError e_Missing e_LengthMismatch := xok1 xb_ThreadError xd_ThreadError xt_ThreadError xu_LengthMismatch (xf_mk xg_LengthMismatch xa_LengthMismatch xb_LengthMismatch xd_LengthMismatch) xf_LengthMismatch_code
  have N_LengthMismatch : ∀ f ∈ [("code" : Str)], PySem.W.findIn K (.ref e_LengthMismatch) f = some none := by
    intro f hf
    simp only [List.mem_cons, List.not_mem_nil, or_false] at hf
    rcases hf with rfl
    · exact xf_LengthMismatch_code
  have H0 : Here K mg "_law_bag" s__law_bag ["_law_script"] := here_mk X G a0 l0 c0 k0 (fun _ _ _ _ _ _ us hl => match us, hl with | [_], _ => rfl)
  have H1 : Here K mg "_law_pull" s__law_pull ["_law_bag_here", "_law_many"] := here_mk X G a1 l1 c1 k1 (fun _ _ _ _ _ _ us hl => match us, hl with | [_, _], _ => rfl)
  have H2 : Here K mg "_law_field" s__law_field ["_law_e"] := here_mk X G a2 l2 c2 k2 (fun _ _ _ _ _ _ us hl => match us, hl with | [_], _ => rfl)
  have H4 : Here K mg "_law_of" s__law_of ["_law_bag_here", "_law_things"] := here_mk X G a4 l4 c4 k4 (fun _ _ _ _ _ _ us hl => match us, hl with | [_, _], _ => rfl)
  have H5 : Here K mg "_law_signed" s__law_signed ["_law_mturned", "_law_body_here"] := here_mk X G a5 l5 c5 k5 (fun _ _ _ _ _ _ us hl => match us, hl with | [_, _], _ => rfl)
  have H6 : Here K mg "_law_string" s__law_string ["_law_bag_here", "_law_size"] := here_mk X G a6 l6 c6 k6 (fun _ _ _ _ _ _ us hl => match us, hl with | [_, _], _ => rfl)
  have H7 : Here K mg "check_string" s_check_string ["text"] := here_mk X G a7 l7 c7 k7 (fun _ _ _ _ _ _ us hl => match us, hl with | [_], _ => rfl)
  have H8 : Here K mg "identity" s_identity ["size"] := here_mk X G a8 l8 c8 k8 (fun _ _ _ _ _ _ us hl => match us, hl with | [_], _ => rfl)
  have H9 : Here K mg "split_sign" s_split_sign ["text"] := here_mk X G a9 l9 c9 k9 (fun _ _ _ _ _ _ us hl => match us, hl with | [_], _ => rfl)
  have H10 : Here K mg "joined" s_joined ["sign", "letters"] := here_mk X G a10 l10 c10 k10 (fun _ _ _ _ _ _ us hl => match us, hl with | [_, _], _ => rfl)
  have H11 : Here K mg "times" s_times ["one", "other"] := here_mk X G a11 l11 c11 k11 (fun _ _ _ _ _ _ us hl => match us, hl with | [_, _], _ => rfl)
  have H12 : HereS K mg "multiply" s_multiply := hereS_mk X G a12 l12 c12 k12
  have H13 : Here K mg "_law_body" s__law_body ["_law_text"] := here_mk X G a13 l13 c13 k13 (fun _ _ _ _ _ _ us hl => match us, hl with | [_], _ => rfl)
  have H14 : Here K mg "_law_is_string" s__law_is_string ["_law_text"] := here_mk X G a14 l14 c14 k14 (fun _ _ _ _ _ _ us hl => match us, hl with | [_], _ => rfl)
  have H15 : Here K mg "_law_same" s__law_same ["_law_found", "_law_due"] := here_mk X G a15 l15 c15 k15 (fun _ _ _ _ _ _ us hl => match us, hl with | [_, _], _ => rfl)
  have H16 : Here K mg "commute" s_commute ["one", "other"] := here_mk X G a16 l16 c16 k16 (fun _ _ _ _ _ _ us hl => match us, hl with | [_, _], _ => rfl)
  refine ⟨PySem.W.fnOf "law" "law" (defArgs s_law) (defBody s_law) (defScope s_law) .none kV17 dc17 pm17 an17 (.ref cTab) ct17, cTab, Ptab, tabIn_mk a17 l17 rfl lT vT, nT, fun s v => .of_eq rfl, fun base _ _ TB => ?_⟩
  have K__law_bag : Known P w K mg base "_law_bag" 1 ["_law_script"] (spBagT K) := ok__law_bag B  H0
  have K__law_pull : Known P w K mg base "_law_pull" 1 ["_law_bag_here", "_law_many"] (spB K fPull) := ok__law_pull B  H1
  have K__law_field : KnownF P w K mg base "_law_field" 2 ["_law_e"] (spN K (F__law_field K)) := ok__law_field B  H2
  have K__law_tried : KnownT P w K mg base "_law_tried" s__law_tried "_law_ask" "ThreadError" "Missing" "_law_field" e_ThreadError e_Missing (F__law_field K) := ⟨⟨_, _, fun_mk (st := s__law_tried) l3 c3 k3, PySem.W.mg_of X G a3, (fun_mk (st := s__law_tried) l3 c3 k3).binds (ps := ["_law_ask"]) fun _ _ _ _ _ _ us hl => (match us, hl with | [_], _ => rfl)⟩, PySem.W.mg_of X G x_ThreadError, PySem.W.mg_of X G x_Missing, ⟨_, K__law_field⟩⟩
  have K__law_of : Known P w K mg base "_law_of" 2 ["_law_bag_here", "_law_things"] (spB K F__law_of) := ok__law_of B K__law_pull H4
  have K__law_signed : Known P w K mg base "_law_signed" 1 ["_law_mturned", "_law_body_here"] (spN K F__law_signed) := ok__law_signed B  H5
  have K__law_string : Known P w K mg base "_law_string" 3 ["_law_bag_here", "_law_size"] (spB K F__law_string) := ok__law_string B K__law_signed K__law_pull K__law_of H6
  have K_check_string : KnownX P w K mg base "check_string" 3 ["text"] (spX K (F_check_string e_InvalidString e_LengthMismatch)) := ok_check_string B (E_InvalidString _)  H7
  have K_identity : Known P w K mg base "identity" 1 ["size"] (spN K F_identity) := ok_identity B  H8
  have K_split_sign : Known P w K mg base "split_sign" 1 ["text"] (spN K F_split_sign) := ok_split_sign B  H9
  have K_joined : Known P w K mg base "joined" 1 ["sign", "letters"] (spN K F_joined) := ok_joined B  H10
  have K_times : Known P w K mg base "times" 2 ["one", "other"] (spN K F_times) := ok_times B Gd K_split_sign K_joined H11
  have K_multiply : KnownRX P w K mg base "multiply" 4 (spX K (fStarX 0 (F_multiply e_InvalidString e_LengthMismatch))) := ok_multiply B (E_LengthMismatch _) K_check_string K_identity K_times K_split_sign H12
  have K__law_body : Known P w K mg base "_law_body" 1 ["_law_text"] (spN K F__law_body) := ok__law_body B  H13
  have K__law_is_string : Known P w K mg base "_law_is_string" 2 ["_law_text"] (spN K F__law_is_string) := ok__law_is_string B K__law_body H14
  have K__law_same : Known P w K mg base "_law_same" 4 ["_law_found", "_law_due"] (spN K (F__law_same 4)) := ok__law_same B H15 _
  have K_commute : KnownX P w K mg base "commute" 5 ["one", "other"] (spX K (F_commute e_InvalidString e_LengthMismatch)) := ok_commute B  K_multiply H16
  exact ok_law B O_InvalidString N_InvalidString O_LengthMismatch N_LengthMismatch K__law_bag K__law_pull K__law_tried K__law_of K__law_string K_check_string K_multiply K__law_is_string K__law_same K_commute K__law_body TB l17 c17
theorem walk {l : PySem.W.OpenLaw} {q : Program} {loose : List Str} {XP : (Str → Option Value) → Heap → Prop} {YP : World → Heap → Prop} {d : DefRec} {K : Params → PySem.W.Frag} (hn : l.most = some 63) (hdf : d.params.defaults = [])
    (hY : ∀ (w : World) (h : Heap), YP w h → (K w.params).In h) (hd : (recsOf q).find? (fun e => e.name == d.name) = some d)
    (F : ∀ (w : World) (mg : Str → Option Value) (fa : Addr) (h : Heap), (K w.params).In h → h.Ns mainGlobals mg → mg d.name = some (.ref fa) →
      ∃ (fd : FuncData) (c P : Addr), PySem.W.tabIn (K w.params) d.name = some (c, P) ∧ (K w.params).lookup P = none ∧ (∀ (s : Shared) (u : Value), BindsTo s fd ⟨[u], []⟩ [("_law_script", u)]) ∧ ∀ base : Heap, (K w.params).In base → base.Ns mainGlobals mg → LamX.TabB base mg c P → FnOk l.prog w (K w.params) mg base CX0 10 fa fd ["_law_script"] (spLawT (K w.params) P)) :
    PySem.W.WalkO q loose XP YP l.row.toRowW d [] (fun f vs => PySem.call f vs) :=
  walk_T (n := 63) (k := 10) (x := "_law_script") hn (by decide) hdf ⟨rfl, by decide, by decide⟩ hY hd F
end Tm
open PySem PySem.W PyProof.Rows
set_option maxRecDepth 100000 in
set_option maxHeartbeats 0 in
theorem PySem.Challenge.cw_threadmark_k22_invalid_strings_holds : PySem.Challenge.rw_threadmark_k22_invalid_strings.Holds := by
  w_on; o_law; k_head; (case hw => w_witness2)
  k_fill
  refine Tm.walk (l := PySem.Challenge.rw_threadmark_k22_invalid_strings) rfl rfl (fun w h Y => PySem.W.km_in_of Y) (by first | rfl | kernel_rfl) ?F
  case F =>
    intro w mg fa h KX G hmg
    refine' Tm.all_mk KX G hmg ?x_InvalidString ?xL_InvalidString ?xs_InvalidString ?xg_InvalidString ?xa_InvalidString ?xb_InvalidString ?xt_InvalidString ?xk_InvalidString ?xd_InvalidString ?xi_InvalidString ?xj_InvalidString ?xl_InvalidString ?xc_InvalidString ?xn_InvalidString ?xf_InvalidString_code ?xf_InvalidString_value ?xu_InvalidString ?x_LengthMismatch ?xL_LengthMismatch ?xs_LengthMismatch ?xg_LengthMismatch ?xa_LengthMismatch ?xb_LengthMismatch ?xt_LengthMismatch ?xk_LengthMismatch ?xd_LengthMismatch ?xi_LengthMismatch ?xj_LengthMismatch ?xl_LengthMismatch ?xc_LengthMismatch ?xn_LengthMismatch ?xf_LengthMismatch_code ?xu_LengthMismatch ?x_ThreadError ?xb_ThreadError ?xt_ThreadError ?xd_ThreadError ?x_Missing ?xb_Missing ?xt_Missing ?xd_Missing ?a0 ?l0 ?c0 ?k0 ?a1 ?l1 ?c1 ?k1 ?a2 ?l2 ?c2 ?k2 ?a3 ?l3 ?c3 ?k3 ?a4 ?l4 ?c4 ?k4 ?a5 ?l5 ?c5 ?k5 ?a6 ?l6 ?c6 ?k6 ?a7 ?l7 ?c7 ?k7 ?a8 ?l8 ?c8 ?k8 ?a9 ?l9 ?c9 ?k9 ?a10 ?l10 ?c10 ?k10 ?a11 ?l11 ?c11 ?k11 ?a12 ?l12 ?c12 ?k12 ?a13 ?l13 ?c13 ?k13 ?a14 ?l14 ?c14 ?k14 ?a15 ?l15 ?c15 ?k15 ?a16 ?l16 ?c16 ?k16 ?a17 ?l17 ?c17 ?k17 ?lT ?vT ?nT ?z_all ?z_bool ?z_dict ?z_int ?z_isinstance ?z_len ?z_list ?z_range ?z_set ?z_sorted ?z_str ?z_tuple ?z_zip ?g_LETTERS ?q_BITS ?ql_BITS ?qk_BITS ?qe_BITS_0 ?qt_BITS_0 ?qe_BITS_1 ?qt_BITS_1 ?qe_BITS_2 ?qt_BITS_2 ?qe_BITS_3 ?qt_BITS_3 ?q_FROM_BITS ?ql_FROM_BITS ?qt_FROM_BITS_0 ?qh_FROM_BITS_0 ?qt_FROM_BITS_1 ?qh_FROM_BITS_1 ?qt_FROM_BITS_2 ?qh_FROM_BITS_2 ?qt_FROM_BITS_3 ?qh_FROM_BITS_3
    (case x_InvalidString => k_is)
    (case xL_InvalidString => k_is)
    (case xs_InvalidString => k_is)
    (case xg_InvalidString => k_is)
    (case xa_InvalidString => k_is)
    (case xb_InvalidString => k_is)
    (case xt_InvalidString => k_is)
    (case xk_InvalidString => k_is)
    (case xd_InvalidString => k_is)
    (case xi_InvalidString => k_is)
    (case xj_InvalidString => k_is)
    (case xl_InvalidString => k_is)
    (case xc_InvalidString => k_is)
    (case xn_InvalidString => k_is)
    (case xf_InvalidString_code => k_is)
    (case xf_InvalidString_value => k_is)
    (case xu_InvalidString => k_is)
    (case x_LengthMismatch => k_is)
    (case xL_LengthMismatch => k_is)
    (case xs_LengthMismatch => k_is)
    (case xg_LengthMismatch => k_is)
    (case xa_LengthMismatch => k_is)
    (case xb_LengthMismatch => k_is)
    (case xt_LengthMismatch => k_is)
    (case xk_LengthMismatch => k_is)
    (case xd_LengthMismatch => k_is)
    (case xi_LengthMismatch => k_is)
    (case xj_LengthMismatch => k_is)
    (case xl_LengthMismatch => k_is)
    (case xc_LengthMismatch => k_is)
    (case xn_LengthMismatch => k_is)
    (case xf_LengthMismatch_code => k_is)
    (case xu_LengthMismatch => k_is)
    (case x_ThreadError => k_is)
    (case xb_ThreadError => k_is)
    (case xt_ThreadError => k_is)
    (case xd_ThreadError => k_is)
    (case x_Missing => k_is)
    (case xb_Missing => k_is)
    (case xt_Missing => k_is)
    (case xd_Missing => k_is)
    (case a0 => k_is)
    (case l0 => k_is)
    (case c0 => k_is)
    (case k0 => k_is)
    (case a1 => k_is)
    (case l1 => k_is)
    (case c1 => k_is)
    (case k1 => k_is)
    (case a2 => k_is)
    (case l2 => k_is)
    (case c2 => k_is)
    (case k2 => k_is)
    (case a3 => k_is)
    (case l3 => k_is)
    (case c3 => k_is)
    (case k3 => k_is)
    (case a4 => k_is)
    (case l4 => k_is)
    (case c4 => k_is)
    (case k4 => k_is)
    (case a5 => k_is)
    (case l5 => k_is)
    (case c5 => k_is)
    (case k5 => k_is)
    (case a6 => k_is)
    (case l6 => k_is)
    (case c6 => k_is)
    (case k6 => k_is)
    (case a7 => k_is)
    (case l7 => k_is)
    (case c7 => k_is)
    (case k7 => k_is)
    (case a8 => k_is)
    (case l8 => k_is)
    (case c8 => k_is)
    (case k8 => k_is)
    (case a9 => k_is)
    (case l9 => k_is)
    (case c9 => k_is)
    (case k9 => k_is)
    (case a10 => k_is)
    (case l10 => k_is)
    (case c10 => k_is)
    (case k10 => k_is)
    (case a11 => k_is)
    (case l11 => k_is)
    (case c11 => k_is)
    (case k11 => k_is)
    (case a12 => k_is)
    (case l12 => k_is)
    (case c12 => k_is)
    (case k12 => k_is)
    (case a13 => k_is)
    (case l13 => k_is)
    (case c13 => k_is)
    (case k13 => k_is)
    (case a14 => k_is)
    (case l14 => k_is)
    (case c14 => k_is)
    (case k14 => k_is)
    (case a15 => k_is)
    (case l15 => k_is)
    (case c15 => k_is)
    (case k15 => k_is)
    (case a16 => k_is)
    (case l16 => k_is)
    (case c16 => k_is)
    (case k16 => k_is)
    (case a17 => k_is)
    (case l17 => k_is)
    (case c17 => k_is)
    (case k17 => k_is)
    (case lT => k_is)
    (case vT => rfl)
    (case nT => first | k_is | kernel_rfl)
    (case z_all => k_is)
    (case z_bool => k_is)
    (case z_dict => k_is)
    (case z_int => k_is)
    (case z_isinstance => k_is)
    (case z_len => k_is)
    (case z_list => k_is)
    (case z_range => k_is)
    (case z_set => k_is)
    (case z_sorted => k_is)
    (case z_str => k_is)
    (case z_tuple => k_is)
    (case z_zip => k_is)
    (case g_LETTERS => k_is)
    (case q_BITS => k_is)
    (case ql_BITS => k_is)
    (case qk_BITS => k_keys)
    (case qe_BITS_0 => k_is)
    (case qt_BITS_0 => k_is)
    (case qe_BITS_1 => k_is)
    (case qt_BITS_1 => k_is)
    (case qe_BITS_2 => k_is)
    (case qt_BITS_2 => k_is)
    (case qe_BITS_3 => k_is)
    (case qt_BITS_3 => k_is)
    (case q_FROM_BITS => k_is)
    (case ql_FROM_BITS => k_is)
    (case qt_FROM_BITS_0 => k_is)
    (case qh_FROM_BITS_0 => kernel_rfl)
    (case qt_FROM_BITS_1 => k_is)
    (case qh_FROM_BITS_1 => kernel_rfl)
    (case qt_FROM_BITS_2 => k_is)
    (case qh_FROM_BITS_2 => kernel_rfl)
    (case qt_FROM_BITS_3 => k_is)
    (case qh_FROM_BITS_3 => kernel_rfl)
