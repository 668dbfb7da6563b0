import PyProof.Rows.All
import Wide.All
import OpenK.AllK
import Wide.FinOn
import HandS.ForMost
import HandS.Exc
import HandS.Lambda
import HandS.Style
import HandS.SetFor
import HandS.Zip
import PyProof.ListStr
import PyProof.Rows.CountFlat
import HandS.IsInst
import HandS.Star
import HandS.TryOnly
import HandS.SetKeys
import HandS.TupSets
import PyProof.Rows.SortShellAny
import HandS.SortInts
import HandS.Conv
import HandS.DictComp
import HandS.ClsMeth
import HandS.More
import HandS.WideBits
import KE.OsArith
import KE.GoesMore
import KE.GoesEnum
import HandS.New
import HandS.SortKw
import HandS.WordsExc
import HandS.ExcInit
import HandS.SetBool
import HandS.Defaults
import PyProof.TupleOfSeq
import HandS.ExcField
import HandS.ExcValue
import HandS.TryMany
import HandS.EndTab
import HandS.ExcIs
import KE.KEqNest
import PyProof.NeKinds
import PyProof.EqKinds
import KE.KExcInit
import KE.KDflt
import HandS.FStr
import HandS.Property
import HandS.Finally
import PyProof.Rows.TupMore
import HandS.NamedTupSort
import PyProof.InstNe
import HandS.Codes
import KE.LtData
import HandS.Deep
import HandS.Replace
import KE.KDictSum
import KE.KUnpackStar
import HandS.Text
import HandS.OwnEq
import PyProof.Rows.StrInSeq3
import KE.KStateDown
import HandS.Base
import HandS.Call
import HandS.Head0
import HandS.Head1
import HandS.Head2
import HandS.HeadHook1
import HandS.HeadHook2
import HandS.HeadEnd
import KE.KDictWalk
import PySem.Challenge.RW_threadmark_k33_blocks_of_webs
set_option Elab.async false
set_option linter.all false
set_option maxRecDepth 100000
set_option maxHeartbeats 4000000
/-! Data over the hand layer: what stands in the heap is told by plain data; a def's reading becomes a reading over data. -/
namespace DL
open PySem L2
/-- data -/
inductive D where
  | non | bl (b : Bool) | int (i : Int) | str (s : Str)
  | lst (xs : List D) | tup (xs : List D) | dk (kvs : List (Key × D)) | obj (C : Addr) (fs : List (Str × D)) | fn (a : Addr) | exc (C : Addr) (fs : List (Str × D)) | tabl (P : Addr) (q : Str)
/-- what may change -/
inductive OD where
  | lst (xs : List D) | dk (kvs : List (Key × D)) | obj (C : Addr) (fs : List (Str × D))
def OD.d : OD → D
  | .lst xs => .lst xs
  | .dk kvs => .dk kvs
  | .obj C fs => .obj C fs
/-- an owned tree: new things that hold new things; what is data is data -/
inductive OT where
  | leaf (d : D)
  | lst (a : Addr) (xs : List OT) | tup (a : Addr) (xs : List OT) | dk (a : Addr) (kvs : List (Key × D)) | obj (a : Addr) (C : Addr) (fs : List (Str × OT)) | dt (a : Addr) (kvs : List (List Key × Str))
mutual
def OT.ad : OT → List Addr
  | .leaf _ => []
  | .lst a xs => a :: OT.ads xs
  | .tup a xs => a :: OT.ads xs
  | .dk a _ => [a]
  | .obj a _ fs => a :: OT.adf fs
  | .dt a _ => [a]
def OT.ads : List OT → List Addr
  | [] => []
  | x :: xs => x.ad ++ OT.ads xs
def OT.adf : List (Str × OT) → List Addr
  | [] => []
  | (_, x) :: xs => x.ad ++ OT.adf xs
end
def OT.root : OT → Addr
  | .leaf _ => 0
  | .lst a _ => a
  | .tup a _ => a
  | .dk a _ => a
  | .obj a _ _ => a
  | .dt a _ => a
def OT.node : OT → Bool
  | .leaf _ => false
  | _ => true
inductive R where
  | sh (d : D) | ow (o : OD) | al (i : Nat) (o : OD) | tr (t : OT)
def R.look : R → D
  | .sh d => d
  | .ow o => o.d
  | .al _ o => o.d
  | .tr t => .fn t.root
def R.keep (P : D → Prop) : R → Prop
  | .sh d => P d
  | .ow o => P o.d
  | .al _ _ => False
  | .tr _ => False
inductive Sl where
  | un | sh (d : D) | own (q : Option Addr) (o : OD) | bag | tr (t : OT)

/-- the mark of a table of code objects, all of the name q; a table itself is never frozen -/
abbrev tm (q : Str) : HO := .dT [([.inr q], .non), ([.inr q], .non)]
/-- a caught exception at a: its class, its dict -/
def XO (C dd a : Addr) : HO := .ext fun h => ∃ (oe : Obj) (vs : Array Value), h.get? a = some oe ∧ L2.Zc (.ref C) (some dd) oe ∧ oe.data = .fields vs
def WT (K : PySem.W.Frag) (a : Addr) (vs : List V) : Prop := ∃ (o : Obj) (its : Array Value) (n : Nat), K.lookup a = some o ∧ o.cls = .type "tuple" ∧ o.data = .seq its n ∧ its.size ≤ sizeLine ∧ Vals vs its.toList
mutual
def Rep (K : PySem.W.Frag) (G : Hp) : D → V → Prop
  | .non, v => v = .non
  | .bl b, v => v = .bl b
  | .int i, v => v = .int i
  | .str s, v => v = .str s
  | .lst xs, v => ∃ a vs, v = .ref a ∧ G a = some (.lst vs) ∧ RepL K G xs vs
  | .tup xs, v => ∃ a vs, v = .ref a ∧ (G a = some (.tup vs) ∨ WT K a vs) ∧ RepL K G xs vs
  | .dk kvs, v => ∃ a vs, v = .ref a ∧ G a = some (.dK vs) ∧ RepK K G kvs vs
  | .obj C fs, v => ∃ a dx vs, v = .ref a ∧ G a = some (.ins C dx vs) ∧ RepF K G fs vs
  | .fn a, v => v = .ref a
  | .exc C fs, v => ∃ a dd vs, v = .ref a ∧ G a = some (XO C dd a) ∧ G dd = some (.xd vs) ∧ RepE K G fs vs
  | .tabl P q, v => (∃ a, v = .ref a) ∧ G P = some (tm q)
def RepL (K : PySem.W.Frag) (G : Hp) : List D → List V → Prop
  | [], vs => vs = []
  | x :: xs, vs => ∃ v r, vs = v :: r ∧ Rep K G x v ∧ RepL K G xs r
def RepK (K : PySem.W.Frag) (G : Hp) : List (Key × D) → List (Key × V) → Prop
  | [], vs => vs = []
  | (k, x) :: xs, vs => ∃ v r, vs = (k, v) :: r ∧ Rep K G x v ∧ RepK K G xs r
def RepF (K : PySem.W.Frag) (G : Hp) : List (Str × D) → List (Str × V) → Prop
  | [], vs => vs = []
  | (k, x) :: xs, vs => ∃ v r, vs = (k, v) :: r ∧ Rep K G x v ∧ RepF K G xs r
def RepE (K : PySem.W.Frag) (G : Hp) : List (Str × D) → List (Str × V) → Prop
  | [], _ => True
  | (k, x) :: xs, vs => (∃ v, vs.lookup k = some v ∧ Rep K G x v) ∧ RepE K G xs vs
end
def RepO (K : PySem.W.Frag) (G : Hp) : OD → HO → Prop
  | .lst xs, o => ∃ vs, o = .lst vs ∧ RepL K G xs vs
  | .dk kvs, o => ∃ vs, o = .dK vs ∧ RepK K G kvs vs
  | .obj C fs, o => ∃ dx vs, o = .ins C dx vs ∧ RepF K G fs vs
def Sub (G G' : Hp) : Prop := ∀ a o, G a = some o → G' a = some o
theorem Sub.refl (G : Hp) : Sub G G := fun _ _ h => h
theorem Sub.trans {G G1 G2 : Hp} (a : Sub G G1) (b : Sub G1 G2) : Sub G G2 := fun x o h => b x o (a x o h)
section
variable {K : PySem.W.Frag} {G G' : Hp}
mutual
theorem Rep.mono (e : Sub G G') : ∀ {d : D} {v : V}, Rep K G d v → Rep K G' d v
  | .non, _, h => h
  | .bl _, _, h => h
  | .int _, _, h => h
  | .str _, _, h => h
  | .lst xs, _, ⟨a, vs, h1, h2, h3⟩ => ⟨a, vs, h1, e _ _ h2, RepL.mono e h3⟩
  | .tup xs, _, ⟨a, vs, h1, h2, h3⟩ => ⟨a, vs, h1, h2.imp (e _ _) id, RepL.mono e h3⟩
  | .dk kvs, _, ⟨a, vs, h1, h2, h3⟩ => ⟨a, vs, h1, e _ _ h2, RepK.mono e h3⟩
  | .obj C fs, _, ⟨a, dx, vs, h1, h2, h3⟩ => ⟨a, dx, vs, h1, e _ _ h2, RepF.mono e h3⟩
  | .fn _, _, h => h
  | .exc C fs, _, ⟨a, dd, vs, h1, h2, h3, h4⟩ => ⟨a, dd, vs, h1, e _ _ h2, e _ _ h3, RepE.mono e h4⟩
  | .tabl P q, _, ⟨h1, h2⟩ => ⟨h1, e _ _ h2⟩
theorem RepL.mono (e : Sub G G') : ∀ {xs : List D} {vs : List V}, RepL K G xs vs → RepL K G' xs vs
  | [], _, h => h
  | x :: xs, _, ⟨v, r, h1, h2, h3⟩ => ⟨v, r, h1, Rep.mono e h2, RepL.mono e h3⟩
theorem RepK.mono (e : Sub G G') : ∀ {xs : List (Key × D)} {vs : List (Key × V)}, RepK K G xs vs → RepK K G' xs vs
  | [], _, h => h
  | (k, x) :: xs, _, ⟨v, r, h1, h2, h3⟩ => ⟨v, r, h1, Rep.mono e h2, RepK.mono e h3⟩
theorem RepF.mono (e : Sub G G') : ∀ {xs : List (Str × D)} {vs : List (Str × V)}, RepF K G xs vs → RepF K G' xs vs
  | [], _, h => h
  | (k, x) :: xs, _, ⟨v, r, h1, h2, h3⟩ => ⟨v, r, h1, Rep.mono e h2, RepF.mono e h3⟩
theorem RepE.mono (e : Sub G G') : ∀ {xs : List (Str × D)} {vs : List (Str × V)}, RepE K G xs vs → RepE K G' xs vs
  | [], _, _ => trivial
  | (k, x) :: xs, _, ⟨⟨v, h1, h2⟩, h3⟩ => ⟨⟨v, h1, Rep.mono e h2⟩, RepE.mono e h3⟩
end
theorem RepO.mono (e : Sub G G') : ∀ {o : OD} {h : HO}, RepO K G o h → RepO K G' o h
  | .lst xs, _, ⟨vs, h1, h2⟩ => ⟨vs, h1, RepL.mono e h2⟩
  | .dk xs, _, ⟨vs, h1, h2⟩ => ⟨vs, h1, RepK.mono e h2⟩
  | .obj C xs, _, ⟨dx, vs, h1, h2⟩ => ⟨dx, vs, h1, RepF.mono e h2⟩
theorem RepL.length : ∀ {xs : List D} {vs : List V}, RepL K G xs vs → vs.length = xs.length
  | [], _, h => by cases h; rfl
  | x :: xs, _, ⟨v, r, h1, h2, h3⟩ => by subst h1; simp [RepL.length h3]
theorem RepL.append : ∀ {xs ys : List D} {vs ws : List V}, RepL K G xs vs → RepL K G ys ws → RepL K G (xs ++ ys) (vs ++ ws)
  | [], _, _, _, h, h' => by cases h; exact h'
  | x :: xs, _, _, _, ⟨v, r, h1, h2, h3⟩, h' => by subst h1; exact ⟨v, _, rfl, h2, RepL.append h3 h'⟩
theorem RepL.get : ∀ {xs : List D} {vs : List V} {i : Nat} {x : D}, RepL K G xs vs → xs[i]? = some x → ∃ v, vs[i]? = some v ∧ Rep K G x v
  | [], _, _, _, _, e => by simp at e
  | y :: xs, _, 0, x, ⟨v, r, h1, h2, h3⟩, e => by simp at e; subst e; subst h1; exact ⟨v, rfl, h2⟩
  | y :: xs, _, i + 1, x, ⟨v, r, h1, h2, h3⟩, e => by
    subst h1
    obtain ⟨w, q1, q2⟩ := RepL.get (i := i) (x := x) h3 (by simpa using e)
    exact ⟨w, by simpa using q1, q2⟩
theorem RepL.getV {xs : List D} {vs : List V} {i : Nat} {v : V} (h : RepL K G xs vs) (e : vs[i]? = some v) : ∃ x, xs[i]? = some x ∧ Rep K G x v := by
  have hl := h.length
  have hi : i < vs.length := (List.getElem?_eq_some_iff.mp e).1
  have hx : xs[i]? = some xs[i] := by simp [show i < xs.length by omega]
  obtain ⟨w, q1, q2⟩ := h.get hx
  rw [e] at q1
  cases q1
  exact ⟨_, hx, q2⟩
theorem RepL.take : ∀ {xs : List D} {vs : List V} (n : Nat), RepL K G xs vs → RepL K G (xs.take n) (vs.take n)
  | _, _, 0, _ => by rw [List.take_zero, List.take_zero]; rfl
  | [], _, n + 1, h => by cases h; simp; rfl
  | x :: xs, _, n + 1, ⟨v, r, h1, h2, h3⟩ => by subst h1; exact ⟨v, _, rfl, h2, RepL.take n h3⟩
theorem RepL.drop : ∀ {xs : List D} {vs : List V} (n : Nat), RepL K G xs vs → RepL K G (xs.drop n) (vs.drop n)
  | _, _, 0, h => by simpa using h
  | [], _, n + 1, h => by cases h; simp; rfl
  | x :: xs, _, n + 1, ⟨v, r, h1, h2, h3⟩ => by subst h1; simpa using RepL.drop n h3
theorem RepL.eraseIdx : ∀ {xs : List D} {vs : List V} (n : Nat), RepL K G xs vs → RepL K G (xs.eraseIdx n) (vs.eraseIdx n)
  | [], _, _, h => by cases h; simp; rfl
  | x :: xs, _, 0, ⟨v, r, h1, h2, h3⟩ => by subst h1; simpa using h3
  | x :: xs, _, n + 1, ⟨v, r, h1, h2, h3⟩ => by subst h1; exact ⟨v, _, rfl, h2, RepL.eraseIdx n h3⟩
theorem RepL.set {x : D} {v : V} (hx : Rep K G x v) : ∀ {xs : List D} {vs : List V} (n : Nat), RepL K G xs vs → RepL K G (xs.set n x) (vs.set n v)
  | [], _, _, h => by cases h; simp; rfl
  | y :: xs, _, 0, ⟨v, r, h1, h2, h3⟩ => by subst h1; exact ⟨_, _, rfl, hx, h3⟩
  | y :: xs, _, n + 1, ⟨v, r, h1, h2, h3⟩ => by subst h1; exact ⟨v, _, rfl, h2, RepL.set hx n h3⟩
theorem RepL.reverse {xs : List D} {vs : List V} (h : RepL K G xs vs) : RepL K G xs.reverse vs.reverse := by
  induction xs generalizing vs with
  | nil => cases h; rfl
  | cons x xs ih =>
    obtain ⟨v, r, h1, h2, h3⟩ := h
    subst h1
    rw [List.reverse_cons, List.reverse_cons]
    exact (ih h3).append ⟨v, [], rfl, h2, rfl⟩
theorem RepL.one {x : D} {v : V} (h : Rep K G x v) : RepL K G [x] [v] := ⟨v, [], rfl, h, rfl⟩
/-- flat lists -/
theorem repL_map {α : Type} {f : α → D} {g : α → V} (h : ∀ x, Rep K G (f x) (g x)) : ∀ xs : List α, RepL K G (xs.map f) (xs.map g)
  | [] => rfl
  | x :: xs => ⟨g x, _, rfl, h x, repL_map h xs⟩
theorem repL_of {α : Type} {f : α → D} {g : α → V} (h : ∀ x v, Rep K G (f x) v → v = g x) : ∀ {xs : List α} {vs : List V}, RepL K G (xs.map f) vs → vs = xs.map g
  | [], _, e => e
  | x :: xs, _, ⟨v, r, h1, h2, h3⟩ => by subst h1; rw [h x v h2, repL_of h h3]; rfl
theorem repL_str {xs : List Str} {vs : List V} (h : RepL K G (xs.map D.str) vs) : vs = xs.map V.str := repL_of (f := D.str) (g := V.str) (fun _ _ e => e) h
theorem repL_int {xs : List Int} {vs : List V} (h : RepL K G (xs.map D.int) vs) : vs = xs.map V.int := repL_of (f := D.int) (g := V.int) (fun _ _ e => e) h
theorem repL_bl {xs : List Bool} {vs : List V} (h : RepL K G (xs.map D.bl) vs) : vs = xs.map V.bl := repL_of (f := D.bl) (g := V.bl) (fun _ _ e => e) h
end
def Tab3 (G : Hp) (q : Str) (ps : Array Value) : Prop := TriplesOk ps.toList ∧ ∀ (pos : Pos) (cv : Value), codeAmong pos ps.toList = some cv → ∃ c, cv = .ref c ∧ G c = some (LamX.CodeO c q)
theorem Tab3.mono {G G' : Hp} {q : Str} {ps : Array Value} (t : Tab3 G q ps) (e : Sub G G') : Tab3 G' q ps := ⟨t.1, fun pos cv h => by obtain ⟨c, h1, h2⟩ := t.2 pos cv h; exact ⟨c, h1, e _ _ h2⟩⟩
/-- no table -/
def NM (G : Hp) (a : Addr) : Prop := ∀ q, G a ≠ some (tm q)
theorem nm_none {G : Hp} {a : Addr} (h : G a = none) : NM G a := fun q z => by rw [h] at z; cases z
theorem nm_dk {G : Hp} {a : Addr} {vs : List (Key × V)} (h : G a = some (.dK vs)) : NM G a := fun q z => by rw [h] at z; cases z
theorem nm_lst {G : Hp} {a : Addr} {vs : List V} (h : G a = some (.lst vs)) : NM G a := fun q z => by rw [h] at z; cases z
theorem NM.back {G G' : Hp} {a : Addr} (n : NM G' a) (e : Sub G G') : NM G a := fun q z => n q (e _ _ z)
/-- what a frozen thing is in the heap: itself; a dict while it is walked is locked; a table, marked -/
def Ex1 (G : Hp) (x : Option HO) (o : HO) : Prop := x = some o ∨ (∃ kvs od, o = .dK kvs ∧ x = some (.frz od o)) ∨ ∃ q ps, o = tm q ∧ x = some (.tbl ps) ∧ Tab3 G q ps
theorem Ex1.mono {G G' : Hp} {x : Option HO} {o : HO} (h : Ex1 G x o) (e : Sub G G') : Ex1 G' x o := h.imp id fun h => h.imp id fun ⟨q, ps, h1, h2, h3⟩ => ⟨q, ps, h1, h2, h3.mono e⟩
theorem Ex1.ne {G : Hp} {o : HO} (h : Ex1 G none o) : False := by
  rcases h with z | ⟨_, _, _, z⟩ | ⟨_, _, _, z, _⟩ <;> cases z
def Ex (G H : Hp) : Prop := ∀ a o, G a = some o → Ex1 G (H a) o
/-- the source of draws -/
def BagOk (G H : Hp) (a : Addr) : Prop := G a = none ∧ ∃ (s : Addr) (ns : List Int) (i : Nat) (n z : Int), H a = some (.lst [.ref s, .int i, .int n, .int z]) ∧ G s = some (.lst (ns.map V.int)) ∧ i ≤ ns.length ∧ ns.length ≤ 63 ∧ 0 ≤ n ∧ 0 ≤ z ∧ z < 2147483549
abbrev Lk := List (Addr × Obj × HO)
structure Stp (b : Option Addr) (L : Lk) (G H G' H' : Hp) : Prop where
  g : Sub G G'
  fr : ∀ a o, b ≠ some a → NM G a → H a = some o → H' a = some o ∨ ∃ od, (a, od, o) ∈ L ∧ H' a = some (.frz od o)
  new : ∀ a, b ≠ some a → H a ≠ none → G a = none → G' a = none
  ex : Ex G' H'
  bag : ∀ a, b = some a → BagOk G H a → BagOk G' H' a
theorem Stp.refl {b : Option Addr} {G H : Hp} (e : Ex G H) : Stp b [] G H G H := ⟨Sub.refl G, fun _ _ _ _ h => .inl h, fun _ _ _ h => h, e, fun _ _ h => h⟩
theorem Stp.fr0 {b : Option Addr} {G H G' H' : Hp} (s : Stp b [] G H G' H') {a : Addr} {o : HO} (hb : b ≠ some a) (h : H a = some o) (nm : NM G a := by first | assumption | exact DL.nm_none (by assumption) | exact DL.nm_dk (by assumption) | exact DL.nm_lst (by assumption)) : H' a = some o := by
  rcases s.fr a o hb nm h with q | ⟨od, m, _⟩
  · exact q
  · cases m
theorem Stp.nm {b : Option Addr} {L : Lk} {G H G' H' : Hp} (s : Stp b L G H G' H') {a : Addr} (hb : b ≠ some a) (nm : NM G a) (h : H a ≠ none) : NM G' a := by
  cases q : G a with
  | none => exact nm_none (s.new a hb h q)
  | some o =>
    intro t z
    rw [s.g _ _ q] at z
    cases z
    exact nm t q
theorem Stp.trans {b : Option Addr} {L : Lk} {G H G1 H1 G2 H2 : Hp} (s : Stp b L G H G1 H1) (t : Stp b [] G1 H1 G2 H2) : Stp b L G H G2 H2 where
  g := s.g.trans t.g
  fr := fun a o hb nm h => by
    have nm1 : NM G1 a := s.nm hb nm (by rw [h]; simp)
    rcases s.fr a o hb nm h with q | ⟨od, m, q⟩
    · exact .inl (t.fr0 hb q)
    · exact .inr ⟨od, m, t.fr0 hb q⟩
  new := fun a hb h hg => by
    refine t.new a hb ?_ (s.new a hb h hg)
    cases q : H a with
    | none => exact absurd q h
    | some o =>
      rcases s.fr a o hb (nm_none hg) q with q | ⟨od, m, q⟩ <;> rw [q] <;> exact Option.some_ne_none _
  ex := t.ex
  bag := fun a hb h => t.bag a hb (s.bag a hb h)
/-- a new frozen object -/
theorem Stp.laid {b : Option Addr} {G H : Hp} {p : Addr} {o : HO} (e : Ex G H) (hp : H p = none) : Stp b [] G H (upd G p o) (upd H p o) := by
  have gp : G p = none := by
    cases q : G p with
    | none => rfl
    | some u => have z := e p u q; rw [hp] at z; exact z.ne.elim
  have sub : Sub G (upd G p o) := fun a u h => by rw [upd_ne (ne_of_none h gp)]; exact h
  refine ⟨sub, fun a u _ _ h => .inl (by rw [upd_ne (ne_of_none h hp)]; exact h), fun a _ h hg => ?_, fun a u h => ?_, fun a _ ⟨h1, s, ns, i, n, z, h2, h3, h4⟩ => ?_⟩
  · rw [upd_ne (fun z => h (by rw [z]; exact hp))]; exact hg
  · by_cases z : a = p
    · subst z; rw [upd_same] at h ⊢; exact .inl h
    · rw [upd_ne z] at h ⊢; exact (e a u h).mono sub
  · have na : a ≠ p := ne_of_none h2 hp
    exact ⟨by rw [upd_ne na]; exact h1, s, ns, i, n, z, by rw [upd_ne na]; exact h2, by rw [upd_ne (ne_of_none h3 gp)]; exact h3, h4⟩
theorem Ex.old {G H : Hp} (e : Ex G H) (a : Addr) (o : HO) (h : G a = some o) (n : ∀ q, o ≠ tm q := by intro q z; cases z) : H a = some o ∨ ∃ kvs od, o = .dK kvs ∧ H a = some (.frz od o) := by
  rcases e a o h with z | z | ⟨q, _, z, _⟩
  · exact .inl z
  · exact .inr z
  · exact (n q z).elim
theorem Ex.nm_frz {G H : Hp} (e : Ex G H) {a : Addr} {od : Obj} {u : HO} (h : H a = some (.frz od u)) : NM G a := fun q z => by
  rcases e a _ z with y | ⟨_, _, y, _⟩ | ⟨_, _, _, y, _⟩
  · rw [h] at y; cases y
  · cases y
  · rw [h] at y; cases y
theorem Ex.none {G H : Hp} (e : Ex G H) {p : Addr} (hp : H p = none) : G p = none := by
  cases q : G p with
  | none => rfl
  | some u => have z := e p u q; rw [hp] at z; exact z.ne.elim
/-- a new object, not frozen -/
theorem Stp.made {b : Option Addr} {G H : Hp} {p : Addr} {o : HO} (e : Ex G H) (hp : H p = none) : Stp b [] G H G (upd H p o) := by
  have gp : G p = none := e.none hp
  refine ⟨Sub.refl G, fun a u _ _ h => .inl (by rw [upd_ne (ne_of_none h hp)]; exact h), fun a _ h hg => hg, fun a u h => ?_, fun a _ ⟨h1, s, ns, i, n, z, h2, h3⟩ => ?_⟩
  · rw [upd_ne (ne_of_none h gp)]; exact e a u h
  · exact ⟨h1, s, ns, i, n, z, by rw [upd_ne (ne_of_none h2 hp)]; exact h2, h3⟩
/-- a def without the source, called where there is one -/
theorem Stp.some {b : Option Addr} {G H G' H' : Hp} (s : Stp none [] G H G' H') : Stp b [] G H G' H' := by
  refine ⟨s.g, fun a o _ nm h => s.fr a o (by simp) nm h, fun a _ h hg => s.new a (by simp) h hg, s.ex, fun a _ ⟨h1, q, ns, i, n, z, h2, h3, h4⟩ => ?_⟩
  exact ⟨s.new a (by simp) (by rw [h2]; simp) h1, q, ns, i, n, z, s.fr0 (by simp) h2, s.g _ _ h3, h4⟩
/-- an object made since is frozen -/
theorem Stp.freeze {b : Option Addr} {G H G' H' : Hp} {p : Addr} {o : HO} (s : Stp b [] G H G' H') (hb : b ≠ .some p) (hp : H p = none) (hg : G' p = none) (h : H' p = .some o) : Stp b [] G H (upd G' p o) H' := by
  have sub : Sub G' (upd G' p o) := fun a u q => by rw [upd_ne (ne_of_none q hg)]; exact q
  refine ⟨s.g.trans sub, s.fr, fun a hb' h' hg' => ?_, fun a u q => ?_, fun a ha h' => ?_⟩
  · rw [upd_ne (fun z => h' (by rw [z]; exact hp))]; exact s.new a hb' h' hg'
  · by_cases z : a = p
    · subst z; rw [upd_same] at q; cases q; exact .inl h
    · rw [upd_ne z] at q; exact (s.ex a u q).mono sub
  · obtain ⟨h1, q, ns, i, n, z, h2, h3, h4⟩ := s.bag a ha h'
    exact ⟨by rw [upd_ne (fun z => hb (by rw [← z]; exact ha))]; exact h1, q, ns, i, n, z, h2, sub _ _ h3, h4⟩

mutual
def RepT (K : PySem.W.Frag) (G H : Hp) : OT → V → Prop
  | .leaf d, v => Rep K G d v
  | .lst a xs, v => v = .ref a ∧ ∃ vs, H a = some (.lst vs) ∧ RepTs K G H xs vs
  | .tup a xs, v => v = .ref a ∧ ∃ vs, H a = some (.tup vs) ∧ RepTs K G H xs vs
  | .dk a kvs, v => v = .ref a ∧ ∃ vs, H a = some (.dK vs) ∧ RepK K G kvs vs
  | .obj a C fs, v => v = .ref a ∧ ∃ dx vs, H a = some (.ins C dx vs) ∧ RepTf K G H fs vs
  | .dt a kvs, v => v = .ref a ∧ H a = some (.dT (kvs.map fun p => (p.1, V.str p.2)))
def RepTs (K : PySem.W.Frag) (G H : Hp) : List OT → List V → Prop
  | [], vs => vs = []
  | x :: xs, vs => ∃ v r, vs = v :: r ∧ RepT K G H x v ∧ RepTs K G H xs r
def RepTf (K : PySem.W.Frag) (G H : Hp) : List (Str × OT) → List (Str × V) → Prop
  | [], vs => vs = []
  | (k, x) :: xs, vs => ∃ v r, vs = (k, v) :: r ∧ RepT K G H x v ∧ RepTf K G H xs r
end
section
variable {K : PySem.W.Frag} {G G' H H' : Hp}
mutual
theorem RepT.frame (e : Sub G G') : ∀ {t : OT} {v : V}, (∀ a ∈ t.ad, ∀ o, H a = some o → H' a = some o) → RepT K G H t v → RepT K G' H' t v
  | .leaf _, _, _, h => Rep.mono e h
  | .lst a xs, _, f, ⟨h1, vs, h2, h3⟩ => ⟨h1, vs, f a List.mem_cons_self _ h2, RepTs.frame e (fun c hc => f c (List.mem_cons_of_mem _ hc)) h3⟩
  | .tup a xs, _, f, ⟨h1, vs, h2, h3⟩ => ⟨h1, vs, f a List.mem_cons_self _ h2, RepTs.frame e (fun c hc => f c (List.mem_cons_of_mem _ hc)) h3⟩
  | .dk a kvs, _, f, ⟨h1, vs, h2, h3⟩ => ⟨h1, vs, f a List.mem_cons_self _ h2, h3.mono e⟩
  | .obj a C fs, _, f, ⟨h1, dx, vs, h2, h3⟩ => ⟨h1, dx, vs, f a List.mem_cons_self _ h2, RepTf.frame e (fun c hc => f c (List.mem_cons_of_mem _ hc)) h3⟩
  | .dt a kvs, _, f, ⟨h1, h2⟩ => ⟨h1, f a List.mem_cons_self _ h2⟩
theorem RepTs.frame (e : Sub G G') : ∀ {xs : List OT} {vs : List V}, (∀ a ∈ OT.ads xs, ∀ o, H a = some o → H' a = some o) → RepTs K G H xs vs → RepTs K G' H' xs vs
  | [], _, _, h => h
  | x :: xs, _, f, ⟨v, r, h1, h2, h3⟩ => ⟨v, r, h1, RepT.frame e (fun c hc => f c (List.mem_append_left _ hc)) h2, RepTs.frame e (fun c hc => f c (List.mem_append_right _ hc)) h3⟩
theorem RepTf.frame (e : Sub G G') : ∀ {xs : List (Str × OT)} {vs : List (Str × V)}, (∀ a ∈ OT.adf xs, ∀ o, H a = some o → H' a = some o) → RepTf K G H xs vs → RepTf K G' H' xs vs
  | [], _, _, h => h
  | (k, x) :: xs, _, f, ⟨v, r, h1, h2, h3⟩ => ⟨v, r, h1, RepT.frame e (fun c hc => f c (List.mem_append_left _ hc)) h2, RepTf.frame e (fun c hc => f c (List.mem_append_right _ hc)) h3⟩
end
mutual
theorem RepT.live : ∀ {t : OT} {v : V}, RepT K G H t v → ∀ a ∈ t.ad, ∃ o, H a = some o
  | .leaf _, _, _, a, ha => by cases ha
  | .lst c xs, _, ⟨_, vs, h2, h3⟩, a, ha => (List.mem_cons.mp ha).elim (fun e => ⟨_, e ▸ h2⟩) fun h => RepTs.live h3 a h
  | .tup c xs, _, ⟨_, vs, h2, h3⟩, a, ha => (List.mem_cons.mp ha).elim (fun e => ⟨_, e ▸ h2⟩) fun h => RepTs.live h3 a h
  | .dk c kvs, _, ⟨_, vs, h2, h3⟩, a, ha => ⟨_, (List.mem_singleton.mp ha) ▸ h2⟩
  | .obj c C fs, _, ⟨_, dx, vs, h2, h3⟩, a, ha => (List.mem_cons.mp ha).elim (fun e => ⟨_, e ▸ h2⟩) fun h => RepTf.live h3 a h
  | .dt c kvs, _, ⟨_, h2⟩, a, ha => ⟨_, (List.mem_singleton.mp ha) ▸ h2⟩
theorem RepTs.live : ∀ {xs : List OT} {vs : List V}, RepTs K G H xs vs → ∀ a ∈ OT.ads xs, ∃ o, H a = some o
  | [], _, _, a, ha => by cases ha
  | x :: xs, _, ⟨v, r, h1, h2, h3⟩, a, ha => (List.mem_append.mp ha).elim (RepT.live h2 a) (RepTs.live h3 a)
theorem RepTf.live : ∀ {xs : List (Str × OT)} {vs : List (Str × V)}, RepTf K G H xs vs → ∀ a ∈ OT.adf xs, ∃ o, H a = some o
  | [], _, _, a, ha => by cases ha
  | (k, x) :: xs, _, ⟨v, r, h1, h2, h3⟩, a, ha => (List.mem_append.mp ha).elim (RepT.live h2 a) (RepTf.live h3 a)
end
theorem RepT.ref : ∀ {t : OT} {v : V}, t.node = true → RepT K G H t v → v = .ref t.root
  | .leaf _, _, n, _ => by cases n
  | .lst _ _, _, _, h => h.1
  | .tup _ _, _, _, h => h.1
  | .dk _ _, _, _, h => h.1
  | .obj _ _ _, _, _, h => h.1
  | .dt _ _, _, _, h => h.1
end
/-- a tree of new things -/
structure NewT (K : PySem.W.Frag) (b : Option Addr) (F : Addr → Prop) (G H : Hp) (t : OT) (v : V) : Prop where
  node : t.node = true
  rep : RepT K G H t v
  nd : t.ad.Nodup
  ok : ∀ a ∈ t.ad, b ≠ some a ∧ F a ∧ G a = none
theorem NewT.step {K : PySem.W.Frag} {b : Option Addr} {F : Addr → Prop} {G H G' H' : Hp} {t : OT} {v : V} (h : NewT K b F G H t v) (s : Stp b [] G H G' H') : NewT K b F G' H' t v where
  node := h.node
  rep := h.rep.frame s.g fun a ha o hh => s.fr0 (h.ok a ha).1 hh (nm_none (h.ok a ha).2.2)
  nd := h.nd
  ok := fun a ha => ⟨(h.ok a ha).1, (h.ok a ha).2.1, s.new a (h.ok a ha).1 (by obtain ⟨o, ho⟩ := h.rep.live a ha; rw [ho]; simp) (h.ok a ha).2.2⟩
theorem NewT.imp {K : PySem.W.Frag} {b b' : Option Addr} {F F' : Addr → Prop} {G H : Hp} {t : OT} {v : V} (h : NewT K b F G H t v) (f : ∀ a, b ≠ some a → F a → b' ≠ some a ∧ F' a) : NewT K b' F' G H t v :=
  ⟨h.node, h.rep, h.nd, fun a ha => ⟨(f a (h.ok a ha).1 (h.ok a ha).2.1).1, (f a (h.ok a ha).1 (h.ok a ha).2.1).2, (h.ok a ha).2.2⟩⟩
/-- the addresses that a slot owns -/
def Fp : Sl → Option (Option V) → Addr → Prop
  | .own _ _, s, a => s = some (some (.ref a))
  | .tr t, _, a => a ∈ t.ad
  | _, _, _ => False
/-- what a slot holds -/
def SlotOk (K : PySem.W.Frag) (b : Option Addr) (H0 G H : Hp) (s : Option (Option V)) : Sl → Prop
  | .un => True
  | .sh d => ∃ v, s = some (some v) ∧ Rep K G d v
  | .own q o => ∃ a ho, s = some (some (.ref a)) ∧ b ≠ some a ∧ H0 a = none ∧ G a = none ∧ H a = some ho ∧ RepO K G o ho ∧ ∀ a0, q = some a0 → a = a0
  | .bag => ∃ a, b = some a ∧ s = some (some (.ref a))
  | .tr t => ∃ v, s = some (some v) ∧ NewT K b (fun a => H0 a = none) G H t v
structure Good0 (K : PySem.W.Frag) (b : Option Addr) (L : Lk) (G0 H0 G H : Hp) (σ : L2.St) (e : List Sl) : Prop where
  stp : Stp b L G0 H0 G H
  slot : ∀ (i : Nat) (x : Sl), e[i]? = some x → SlotOk K b H0 G H σ[i]? x
  inj : ∀ (i j : Nat) (q q' : Option Addr) (o o' : OD) (a : Addr), e[i]? = some (.own q o) → e[j]? = some (.own q' o') → σ[i]? = some (some (.ref a)) → σ[j]? = some (some (.ref a)) → i = j
  bag : ∀ a, b = some a → BagOk G H a
  lk : ∀ a od u, (a, od, u) ∈ L → H a = some (.frz od u)
  len : e.length = σ.length
  injT : ∀ (i j : Nat) (t : OT) (y : Sl) (a : Addr), e[i]? = some (.tr t) → e[j]? = some y → a ∈ t.ad → Fp y σ[j]? a → i = j
theorem Good0.ex {K : PySem.W.Frag} {b : Option Addr} {L : Lk} {G0 H0 G H : Hp} {σ : L2.St} {e : List Sl} (g : Good0 K b L G0 H0 G H σ e) : Ex G H := g.stp.ex
theorem Good0.step {K : PySem.W.Frag} {b : Option Addr} {L : Lk} {G0 H0 G H G' H' : Hp} {σ : L2.St} {e : List Sl} (g : Good0 K b L G0 H0 G H σ e) (s : Stp b [] G H G' H') : Good0 K b L G0 H0 G' H' σ e where
  stp := g.stp.trans s
  slot := fun i x hx => by
    have q := g.slot i x hx
    cases x with
    | un => trivial
    | sh d => obtain ⟨v, h1, h2⟩ := q; exact ⟨v, h1, h2.mono s.g⟩
    | own t o =>
      obtain ⟨a, ho, h1, h2, h3, h4, h5, h6, h7⟩ := q
      exact ⟨a, ho, h1, h2, h3, s.new a h2 (by rw [h5]; simp) h4, s.fr0 h2 h5, h6.mono s.g, h7⟩
    | bag => exact q
    | tr t => obtain ⟨v, h1, h2⟩ := q; exact ⟨v, h1, h2.step s⟩
  inj := g.inj
  bag := fun a ha => s.bag a ha (g.bag a ha)
  lk := fun a od u m => by
    refine s.fr0 (fun z => ?_) (g.lk a od u m) (g.ex.nm_frz (g.lk a od u m))
    obtain ⟨_, _, _, _, _, _, h, _⟩ := g.bag a z
    rw [g.lk a od u m] at h
    cases h
  len := g.len
  injT := g.injT
/-- an exception's class and fields -/
abbrev XD := Addr × List (Str × D)
def XRep (K : PySem.W.Frag) (G H : Hp) (x : XD) (cls : Value) (d : Option Addr) : Prop := cls = .ref x.1 ∧ ∃ (dd : Addr) (fs : List (Str × V)), d = some dd ∧ H dd = some (.xd fs) ∧ G dd = some (.xd fs) ∧ ∀ f y, x.2.lookup f = some y → ∃ v, fs.lookup f = some v ∧ Rep K G y v
/-- the ground: where the source of draws stands; what an exception that gets out must be -/
structure Bg where
  a : Option Addr
  W : L2.WX
  xp : XD → Prop
  inv : Hp → Hp → Hp → Prop
instance : Coe Bg (Option Addr) := ⟨Bg.a⟩
abbrev bN (a : Option Addr) : Bg := ⟨a, fun _ _ _ _ => True, fun _ => False, fun _ _ _ => True⟩
def XL (K : PySem.W.Frag) (b : Bg) (L : Lk) (G0 H0 : Hp) : Prop := (L ≠ [] → ∀ x, ¬ b.xp x) ∧ (L = [] → ∀ (x : XD) (cls : Value) (d : Option Addr) (σ : L2.St) (G' H' : Hp), Stp b.a [] G0 H0 G' H' → XRep K G' H' x cls d → b.xp x → (∃ F : Hp, (∀ a, F a = none → H0 a = none) ∧ b.inv F G' H') → b.W cls d σ H')
theorem xl_n {K : PySem.W.Frag} {a : Option Addr} {L : Lk} {G0 H0 : Hp} : XL K (bN a) L G0 H0 := ⟨fun _ _ h => h, fun _ _ _ _ _ _ _ _ _ h _ => h.elim⟩
/-- nothing gets out -/
abbrev Bg.q (b : Bg) : Bg := ⟨b.a, b.W, fun _ => False, b.inv⟩
theorem xl_q {K : PySem.W.Frag} {b : Bg} {L : Lk} {G0 H0 : Hp} : XL K b.q L G0 H0 := ⟨fun _ _ h => h, fun _ _ _ _ _ _ _ _ _ h _ => h.elim⟩
structure Good (K : PySem.W.Frag) (b : Bg) (L : Lk) (G0 H0 G H : Hp) (σ : L2.St) (e : List Sl) : Prop extends Good0 K b.a L G0 H0 G H σ e where
  xl : XL K b L G0 H0
theorem Good.ex {K : PySem.W.Frag} {b : Bg} {L : Lk} {G0 H0 G H : Hp} {σ : L2.St} {e : List Sl} (g : Good K b L G0 H0 G H σ e) : Ex G H := g.stp.ex
theorem Good.step {K : PySem.W.Frag} {b : Bg} {L : Lk} {G0 H0 G H G' H' : Hp} {σ : L2.St} {e : List Sl} (g : Good K b L G0 H0 G H σ e) (s : Stp b [] G H G' H') : Good K b L G0 H0 G' H' σ e := ⟨g.toGood0.step s, g.xl⟩
/-- a value at hand; Hs: the heap ahead of it -/
def RepR (K : PySem.W.Frag) (b : Option Addr) (Hs : Hp) (σ : L2.St) (e : List Sl) (G H : Hp) : R → V → Prop
  | .sh d, v => Rep K G d v
  | .ow o, v => ∃ a ho, v = .ref a ∧ b ≠ some a ∧ Hs a = none ∧ G a = none ∧ H a = some ho ∧ RepO K G o ho
  | .al i o, v => (∃ q, e[i]? = some (.own q o)) ∧ σ[i]? = some (some v)
  | .tr t, v => NewT K b (fun a => Hs a = none) G H t v
theorem RepR.step {K : PySem.W.Frag} {b : Option Addr} {Hs G H G' H' : Hp} {σ : L2.St} {e : List Sl} {r : R} {v : V} (h : RepR K b Hs σ e G H r v) (s : Stp b [] G H G' H') : RepR K b Hs σ e G' H' r v := by
  cases r with
  | sh d => exact Rep.mono s.g h
  | ow o =>
    obtain ⟨a, ho, h1, h2, h3, h4, h5, h6⟩ := h
    exact ⟨a, ho, h1, h2, h3, s.new a h2 (by rw [h5]; simp) h4, s.fr0 h2 h5, h6.mono s.g⟩
  | al i o => exact h
  | tr t => exact NewT.step h s
/-- fresh later is fresh before -/
theorem RepR.back {K : PySem.W.Frag} {b : Option Addr} {Hs Hm G H : Hp} {σ : L2.St} {e : List Sl} {r : R} {v : V} (h : RepR K b Hm σ e G H r v) (f : ∀ a, b ≠ some a → Hm a = none → Hs a = none) : RepR K b Hs σ e G H r v := by
  cases r with
  | sh d => exact h
  | ow o =>
    obtain ⟨a, ho, h1, h2, h3, h4⟩ := h
    exact ⟨a, ho, h1, h2, f a h2 h3, h4⟩
  | al i o => exact h
  | tr t => exact NewT.imp h fun a h1 h2 => ⟨h1, f a h1 h2⟩
theorem Stp.backL {b : Option Addr} {L : Lk} {G H G' H' : Hp} (s : Stp b L G H G' H') (a : Addr) (hb : b ≠ .some a) (h : H' a = none) : H a = none := by
  cases q : H a with
  | none => rfl
  | some o =>
    cases y : G a with
    | none => rcases s.fr a o hb (nm_none y) q with z | ⟨_, _, z⟩ <;> rw [h] at z <;> cases z
    | some u => have z := s.ex a u (s.g _ _ y); rw [h] at z; exact z.ne.elim
theorem Stp.back {b : Option Addr} {G H G' H' : Hp} (s : Stp b [] G H G' H') (a : Addr) (hb : b ≠ .some a) (h : H' a = none) : H a = none := s.backL a hb h
/-- what may be read at a value: its own object by the heap, what it holds by the frozen part -/
def Top (K : PySem.W.Frag) (G H : Hp) : D → V → Prop
  | .non, v => v = .non
  | .bl b, v => v = .bl b
  | .int i, v => v = .int i
  | .str s, v => v = .str s
  | .lst xs, v => ∃ a vs, v = .ref a ∧ H a = some (.lst vs) ∧ RepL K G xs vs
  | .tup xs, v => ∃ a vs, v = .ref a ∧ SqT K H a vs ∧ RepL K G xs vs
  | .dk kvs, v => ∃ a vs, v = .ref a ∧ Rd H a (.dK vs) ∧ RepK K G kvs vs
  | .obj C fs, v => ∃ a dx vs, v = .ref a ∧ H a = some (.ins C dx vs) ∧ RepF K G fs vs
  | .fn a, v => v = .ref a
  | .exc C fs, v => ∃ a dd vs, v = .ref a ∧ H a = some (XO C dd a) ∧ H dd = some (.xd vs) ∧ RepE K G fs vs
  | .tabl P q, v => (∃ a, v = .ref a) ∧ G P = some (tm q)
theorem Rep.top {K : PySem.W.Frag} {G H : Hp} (e : Ex G H) : ∀ {d : D} {v : V}, Rep K G d v → Top K G H d v
  | .non, _, h => h
  | .bl _, _, h => h
  | .int _, _, h => h
  | .str _, _, h => h
  | .lst xs, _, ⟨a, vs, h1, h2, h3⟩ => by
    refine ⟨a, vs, h1, ?_, h3⟩
    rcases e _ _ h2 with z | ⟨_, _, z, _⟩ | ⟨_, _, z, _⟩
    · exact z
    · cases z
    · cases z
  | .tup xs, _, ⟨a, vs, h1, h2, h3⟩ => by
    refine ⟨a, vs, h1, ?_, h3⟩
    rcases h2 with h2 | h2
    · rcases e _ _ h2 with z | ⟨_, _, z, _⟩ | ⟨_, _, z, _⟩
      · exact .inl (.inl z)
      · cases z
      · cases z
    · exact .inr h2
  | .dk kvs, _, ⟨a, vs, h1, h2, h3⟩ => by
    refine ⟨a, vs, h1, ?_, h3⟩
    rcases e _ _ h2 with z | ⟨_, od, z, q⟩ | ⟨_, _, z, _⟩
    · exact .inl z
    · exact .inr ⟨od, q⟩
    · cases z
  | .obj C fs, _, ⟨a, dx, vs, h1, h2, h3⟩ => by
    refine ⟨a, dx, vs, h1, ?_, h3⟩
    rcases e _ _ h2 with z | ⟨_, _, z, _⟩ | ⟨_, _, z, _⟩
    · exact z
    · cases z
    · cases z
  | .fn _, _, h => h
  | .exc C fs, _, ⟨a, dd, vs, h1, h2, h3, h4⟩ => by
    refine ⟨a, dd, vs, h1, ?_, ?_, h4⟩
    · rcases e _ _ h2 with z | ⟨_, _, z, _⟩ | ⟨_, _, z, _⟩
      · exact z
      · cases z
      · cases z
    · rcases e _ _ h3 with z | ⟨_, _, z, _⟩ | ⟨_, _, z, _⟩
      · exact z
      · cases z
      · cases z
  | .tabl P q, _, h => h
theorem RepO.top {K : PySem.W.Frag} {G H : Hp} {a : Addr} {ho : HO} (h : H a = some ho) : ∀ {o : OD}, RepO K G o ho → Top K G H o.d (.ref a)
  | .lst xs, ⟨vs, h1, h2⟩ => by subst h1; exact ⟨a, vs, rfl, h, h2⟩
  | .dk xs, ⟨vs, h1, h2⟩ => by subst h1; exact ⟨a, vs, rfl, .inl h, h2⟩
  | .obj C xs, ⟨dx, vs, h1, h2⟩ => by subst h1; exact ⟨a, dx, vs, rfl, h, h2⟩
theorem RepR.top {K : PySem.W.Frag} {b : Bg} {L : Lk} {G0 H0 Hs G H : Hp} {σ : L2.St} {e : List Sl} {r : R} {v : V} (h : RepR K b Hs σ e G H r v) (g : Good K b L G0 H0 G H σ e) : Top K G H r.look v := by
  cases r with
  | sh d => exact Rep.top g.ex h
  | ow o => obtain ⟨a, ho, rfl, _, _, _, h5, h6⟩ := h; exact h6.top h5
  | tr t => exact NewT.rep h |>.ref (NewT.node h)
  | al i o =>
    obtain ⟨⟨_, h1⟩, h2⟩ := h
    obtain ⟨a, ho, q1, _, _, _, q5, q6, _⟩ := g.slot i _ h1
    rw [h2] at q1
    cases q1
    exact q6.top q5
/-- frozen for good -/
theorem RepO.rep {K : PySem.W.Frag} {G : Hp} {a : Addr} {ho : HO} (hg : G a = none) : ∀ {o : OD}, RepO K G o ho → Rep K (upd G a ho) o.d (.ref a) := by
  have sub : Sub G (upd G a ho) := fun x u q => by rw [upd_ne (ne_of_none q hg)]; exact q
  intro o h
  cases o with
  | lst xs => obtain ⟨vs, rfl, h2⟩ := h; exact ⟨a, vs, rfl, upd_same, h2.mono sub⟩
  | dk xs => obtain ⟨vs, rfl, h2⟩ := h; exact ⟨a, vs, rfl, upd_same, h2.mono sub⟩
  | obj C xs => obtain ⟨dx, vs, rfl, h2⟩ := h; exact ⟨a, dx, vs, rfl, upd_same, h2.mono sub⟩
theorem RepR.freeze {K : PySem.W.Frag} {b : Option Addr} {Hs Gs G H : Hp} {σ : L2.St} {e : List Sl} {r : R} {v : V} {P : D → Prop} (h : RepR K b Hs σ e G H r v) (s : Stp b [] Gs Hs G H) (k : r.keep P) :
    ∃ d G', Stp b [] Gs Hs G' H ∧ Rep K G' d v ∧ P d := by
  cases r with
  | sh d => exact ⟨d, G, s, h, k⟩
  | ow o =>
    obtain ⟨a, ho, rfl, h2, h3, h4, h5, h6⟩ := h
    have z := s.freeze h2 h3 h4 h5
    exact ⟨o.d, upd G a ho, z, h6.rep h4, k⟩
  | al i o => exact k.elim
  | tr t => exact k.elim
end DL
namespace DL
open PySem L2
abbrev DE := List Sl → (R → Prop) → Prop
abbrev DT := List Sl → (Bool → Prop) → Prop
abbrev DA := List Sl → (List D → Prop) → Prop
def nth : List Sl → Nat → Sl
  | [], _ => .un
  | x :: _, 0 => x
  | _ :: xs, i + 1 => nth xs i
theorem nth_get : ∀ {e : List Sl} {i : Nat} {x : Sl}, nth e i = x → x ≠ .un → e[i]? = some x
  | [], _, _, h, n => absurd h.symm n
  | y :: _, 0, _, h, _ => by subst h; rfl
  | _ :: xs, i + 1, x, h, n => by simpa using nth_get (e := xs) h n
def LE (K : PySem.W.Frag) (b : Bg) (t : TE) (u : DE) : Prop := ∀ (L : Lk) (G0 H0 G H : Hp) (σ : L2.St) (e : List Sl) (P : R → Prop) (Q : VK), Good K b L G0 H0 G H σ e → u e P →
  (∀ v r G' H', Stp b [] G H G' H' → RepR K b H σ e G' H' r v → P r → Q v H') → t σ H Q
def LT (K : PySem.W.Frag) (b : Bg) (t : TT) (u : DT) : Prop := ∀ (L : Lk) (G0 H0 G H : Hp) (σ : L2.St) (e : List Sl) (P : Bool → Prop) (Q : Bool → Hp → Prop), Good K b L G0 H0 G H σ e → u e P →
  (∀ c G' H', Stp b [] G H G' H' → P c → Q c H') → t σ H Q
def LA (K : PySem.W.Frag) (b : Bg) (t : TA) (u : DA) : Prop := ∀ (L : Lk) (G0 H0 G H : Hp) (σ : L2.St) (e : List Sl) (P : List D → Prop) (Q : List V → Hp → Prop), Good K b L G0 H0 G H σ e → u e P →
  (∀ vs ds G' H', Stp b [] G H G' H' → RepL K G' ds vs → P ds → Q vs H') → t σ H Q
structure PD (X : Cx) (b : Bg) (e : Expr) (u : DE) : Prop where
  ex : ∃ t, PE X e t ∧ LE X.K b t u
structure PDT (X : Cx) (b : Bg) (e : Expr) (u : DT) : Prop where
  ex : ∃ t, PT X e t ∧ LT X.K b t u
structure PDW (X : Cx) (b : Bg) (e : Expr) (u : DT) : Prop where
  ex : ∃ t, PW X e t ∧ LT X.K b t u
structure PDA (X : Cx) (b : Bg) (es : List Expr) (u : DA) : Prop where
  ex : ∃ t, PA X es t ∧ LA X.K b t u
section
variable {X : Cx} {b : Bg} {K : PySem.W.Frag}
/-! ### names, constants -/
def slV (i : Nat) (P : R → Prop) : Sl → Prop
  | .sh d => P (.sh d)
  | .own _ o => P (.al i o)
  | _ => False
def uVar (i : Nat) : DE := fun e P => slV i P (nth e i)
theorem le_var {i : Nat} : LE K b (tVar i) (uVar i) := by
  intro L G0 H0 G H σ e P Q g h k
  unfold uVar at h
  cases hx : nth e i with
  | un => rw [hx] at h; exact h.elim
  | bag => rw [hx] at h; exact h.elim
  | tr t => rw [hx] at h; exact h.elim
  | sh d =>
    rw [hx] at h
    obtain ⟨v, h1, h2⟩ := g.slot i _ (nth_get hx (by simp))
    exact ⟨v, h1, k v (.sh d) G H (Stp.refl g.ex) h2 h⟩
  | own t o =>
    rw [hx] at h
    have q := nth_get hx (by simp)
    obtain ⟨a, ho, h1, h2⟩ := g.slot i _ q
    exact ⟨_, h1, k _ (.al i o) G H (Stp.refl g.ex) ⟨⟨t, q⟩, h1⟩ h⟩
theorem d_var (i : Nat) {x : Str} {pos : Pos} (hN : X.N[i]? = some x := by rfl) (hv : Vis X.env.scope x := by first | exact Or.inl rfl | exact Or.inr (Or.inl rfl) | exact Or.inr (Or.inr rfl)) (hd : (x == ("__debug__" : Str)) = false := by decide)
    (hcd : (x == ("__classdict__" : Str)) = false := by decide) : PD X b (.Name x pos) (uVar i) := ⟨_, pe_var hN hv hd hcd, le_var⟩
def uC (d : D) : DE := fun _ P => P (.sh d)
theorem le_c {v : V} {d : D} (h : ∀ G, Rep K G d v) : LE K b (tC v) (uC d) := fun L G0 H0 G H σ e P Q g p k => k v (.sh d) G H (Stp.refl g.ex) (h G) p
theorem d_int {i j pos} : PD X b (.Constant (.int i) j pos) (uC (.int i)) := ⟨_, pe_int, le_c fun _ => rfl⟩
theorem d_bl {i j pos} : PD X b (.Constant (.bool i) j pos) (uC (.bl i)) := ⟨_, pe_bl, le_c fun _ => rfl⟩
theorem d_non {j pos} : PD X b (.Constant .none j pos) (uC .non) := ⟨_, pe_non, le_c fun _ => rfl⟩
theorem d_str {x j pos} : PD X b (.Constant (.str x) j pos) (uC (.str x)) := ⟨_, pe_str, le_c fun _ => rfl⟩
/-- a constant of the module -/
theorem d_glob {x : Str} {v : V} {d : D} {u : Value} {pos : Pos} (hm : X.mg x = some u) (r : RelV v u) (hr : ∀ G, Rep X.K G d v) (hg : Gl X x := by rfl) (hd : (x == ("__debug__" : Str)) = false := by decide) : PD X b (.Name x pos) (uC d) :=
  ⟨_, pe_glob hg hm r hd, le_c hr⟩

/-! ### operations on two values, looked at -/
def LO (K : PySem.W.Frag) (r : R2) (f : D → D → (R → Prop) → Prop) : Prop := ∀ (b : Bg) (L : Lk) (G0 H0 G H : Hp) (σ : L2.St) (e : List Sl) (d1 d2 : D) (x y : V) (P : R → Prop) (Q : VK), Good K b L G0 H0 G H σ e →
  Top K G H d1 x → Top K G H d2 y → f d1 d2 P → (∀ v r G' H', Stp b [] G H G' H' → RepR K b H σ e G' H' r v → P r → Q v H') → r x y H Q
theorem LO.flat {r : R2} {f : D → D → (R → Prop) → Prop} (h : ∀ (G H : Hp) (d1 d2 : D) (x y : V) (P : R → Prop) (Q : VK), Ex G H → Top K G H d1 x → Top K G H d2 y → f d1 d2 P → (∀ v d, Rep K G d v → P (.sh d) → Q v H) → r x y H Q) : LO K r f :=
  fun b L G0 H0 G H σ e d1 d2 x y P Q g h1 h2 hf k => h G H d1 d2 x y P Q g.ex h1 h2 hf fun v d hr hp => k v (.sh d) G H (Stp.refl g.ex) hr hp
theorem LO.or {r r' : R2} {f f' : D → D → (R → Prop) → Prop} (h : LO K r f) (h' : LO K r' f') : LO K (fun x y H Q => r x y H Q ∨ r' x y H Q) (fun d1 d2 P => f d1 d2 P ∨ f' d1 d2 P) :=
  fun b L G0 H0 G H σ e d1 d2 x y P Q g h1 h2 hf k => hf.imp (fun z => h b L G0 H0 G H σ e d1 d2 x y P Q g h1 h2 z k) (fun z => h' b L G0 H0 G H σ e d1 d2 x y P Q g h1 h2 z k)
theorem LO.imp {r : R2} {f f' : D → D → (R → Prop) → Prop} (h : LO K r f) (i : ∀ d1 d2 P, f' d1 d2 P → f d1 d2 P) : LO K r f' :=
  fun b L G0 H0 G H σ e d1 d2 x y P Q g h1 h2 hf k => h b L G0 H0 G H σ e d1 d2 x y P Q g h1 h2 (i _ _ _ hf) k
theorem opR_or {f : Value → Value → Sem Value} {r r' : R2} (h : OpR X f r) (h' : OpR X f r') : OpR X f (fun x y H Q => r x y H Q ∨ r' x y H Q) := by
  intro pins s σ H x y v u Q I rx ry q
  rcases q with q | q
  · exact h pins s σ H x y v u Q I rx ry q
  · exact h' pins s σ H x y v u Q I rx ry q
/-- bag is not fresh -/
theorem Good.nb {L : Lk} {G0 H0 G H : Hp} {σ : L2.St} {e : List Sl} (g : Good K b L G0 H0 G H σ e) {p : Addr} (hp : H p = none) : b.a ≠ some p := fun z => by
  obtain ⟨_, _, _, _, _, _, h, _⟩ := g.bag p z
  rw [hp] at h; cases h
/-- a new list, left to whoever takes it -/
theorem Good.newL {L : Lk} {G0 H0 G H : Hp} {σ : L2.St} {e : List Sl} {P : R → Prop} {Q : VK} (g : Good K b L G0 H0 G H σ e) {xs : List D} {vs : List V} (hr : RepL K G xs vs) (hp : P (.ow (.lst xs)))
    (k : ∀ v r G' H', Stp b [] G H G' H' → RepR K b H σ e G' H' r v → P r → Q v H') : ∀ p, H p = none → Q (.ref p) (upd H p (.lst vs)) := fun p np =>
  k _ (.ow (.lst xs)) G _ (Stp.made g.ex np) ⟨p, _, rfl, g.nb np, np, g.ex.none np, upd_same, vs, rfl, hr⟩ hp
theorem Good.newK {L : Lk} {G0 H0 G H : Hp} {σ : L2.St} {e : List Sl} {P : R → Prop} {Q : VK} (g : Good K b L G0 H0 G H σ e) {xs : List (Key × D)} {vs : List (Key × V)} (hr : RepK K G xs vs) (hp : P (.ow (.dk xs)))
    (k : ∀ v r G' H', Stp b [] G H G' H' → RepR K b H σ e G' H' r v → P r → Q v H') : ∀ p, H p = none → Q (.ref p) (upd H p (.dK vs)) := fun p np =>
  k _ (.ow (.dk xs)) G _ (Stp.made g.ex np) ⟨p, _, rfl, g.nb np, np, g.ex.none np, upd_same, vs, rfl, hr⟩ hp
theorem sub_upd {G : Hp} {p : Addr} {o : HO} (h : G p = none) : Sub G (upd G p o) := fun a u q => by rw [upd_ne (ne_of_none q h)]; exact q
theorem Good.newT {L : Lk} {G0 H0 G H : Hp} {σ : L2.St} {e : List Sl} {P : R → Prop} {Q : VK} (g : Good K b L G0 H0 G H σ e) {xs : List D} {vs : List V} (hr : RepL K G xs vs) (hp : P (.sh (.tup xs)))
    (k : ∀ v r G' H', Stp b [] G H G' H' → RepR K b H σ e G' H' r v → P r → Q v H') : ∀ p, H p = none → Q (.ref p) (upd H p (.tup vs)) := fun p np =>
  k _ (.sh (.tup xs)) _ _ (Stp.laid g.ex np) ⟨p, vs, rfl, .inl upd_same, hr.mono (sub_upd (g.ex.none np))⟩ hp
def uBin (f : D → D → (R → Prop) → Prop) (u1 u2 : DE) : DE := fun e P => u1 e fun r1 => u2 e fun r2 => f r1.look r2.look P
theorem le_bin {r : R2} {f : D → D → (R → Prop) → Prop} {t1 t2 : TE} {u1 u2 : DE} (h : LO K r f) (h1 : LE K b t1 u1) (h2 : LE K b t2 u2) : LE K b (tOp r t1 t2) (uBin f u1 u2) := by
  intro L G0 H0 G H σ e P Q g hu k
  refine h1 L G0 H0 G H σ e _ _ g hu fun v1 r1 G1 H1 s1 hr1 q1 => ?_
  have g1 := g.step s1
  refine h2 L G0 H0 G1 H1 σ e _ _ g1 q1 fun v2 r2 G2 H2 s2 hr2 q2 => ?_
  have g2 := g1.step s2
  refine h b L G0 H0 G2 H2 σ e _ _ v1 v2 P Q g2 ((hr1.step s2).top g2) (hr2.top g2) q2 fun v r G' H' s hr hp => ?_
  exact k v r G' H' ((s1.trans s2).trans s) (hr.back fun a hb z => s1.back a hb (s2.back a hb z)) hp
theorem d_bin {op : Operator} {r : R2} {f : D → D → (R → Prop) → Prop} {a c : Expr} {u1 u2 : DE} {pos : Pos} (ho : OpR X (binaryOp op) r) (h : LO X.K r f) (h1 : PD X b a u1) (h2 : PD X b c u2) : PD X b (.BinOp a op c pos) (uBin f u1 u2) := by
  obtain ⟨t1, p1, l1⟩ := h1
  obtain ⟨t2, p2, l2⟩ := h2
  exact ⟨_, pe_op ho p1 p2, le_bin h l1 l2⟩
theorem d_cmp {op : CmpOp} {r : R2} {f : D → D → (R → Prop) → Prop} {a c : Expr} {u1 u2 : DE} {pos : Pos} (ho : OpR X (compareOp op) r) (h : LO X.K r f) (hm : behindInMarks op c = false) (h1 : PD X b a u1) (h2 : PD X b c u2) : PD X b (.Compare a [op] [c] pos) (uBin f u1 u2) := by
  obtain ⟨t1, p1, l1⟩ := h1
  obtain ⟨t2, p2, l2⟩ := h2
  exact ⟨_, pe_cmpR ho p1 p2 hm, le_bin h l1 l2⟩
/-- a value that is a truth value -/
def asB (P : Bool → Prop) : R → Prop
  | .sh (.bl c) => P c
  | _ => False
theorem asB_of {P : Bool → Prop} {Hs G H : Hp} {σ : L2.St} {e : List Sl} {r : R} {v : V} (h : RepR K b Hs σ e G H r v) (p : asB P r) : ∃ c, v = .bl c ∧ P c := by
  cases r with
  | sh d =>
    cases d with
    | bl c => exact ⟨c, h, p⟩
    | _ => exact p.elim
  | _ => exact p.elim
def uTest (u : DE) : DT := fun e P => u e (asB P)
theorem lt_test {t : TE} {u : DE} (h : LE K b t u) : LT K b (tTest t) (uTest u) := by
  intro L G0 H0 G H σ e P Q g hu k
  refine h L G0 H0 G H σ e _ _ g hu fun v r G' H' s hr hp => ?_
  obtain ⟨c, rfl, hc⟩ := asB_of hr hp
  exact ⟨c, rfl, k c G' H' s hc⟩
theorem dt_cmp {op : CmpOp} {r : R2} {f : D → D → (R → Prop) → Prop} {a c : Expr} {u1 u2 : DE} {pos : Pos} (ho : OpR X (compareOp op) r) (h : LO X.K r f) (hm : behindInMarks op c = false) (h1 : PD X b a u1) (h2 : PD X b c u2) : PDT X b (.Compare a [op] [c] pos) (uTest (uBin f u1 u2)) := by
  obtain ⟨t1, p1, l1⟩ := h1
  obtain ⟨t2, p2, l2⟩ := h2
  exact ⟨_, pt_cmpR ho p1 p2 hm, lt_test (le_bin h l1 l2)⟩

/-! ### the operators' meanings -/
def fAdd : D → D → (R → Prop) → Prop
  | .int i, .int j, P => P (.sh (.int (i + j)))
  | .str x, .str y, P => x.length + y.length ≤ 1000000 ∧ P (.sh (.str (x ++ y)))
  | .lst xs, .lst ys, P => xs.length + ys.length ≤ 1000000 ∧ P (.ow (.lst (xs ++ ys)))
  | .tup xs, .tup ys, P => xs ≠ [] ∧ ys ≠ [] ∧ xs.length + ys.length ≤ 1000000 ∧ P (.sh (.tup (xs ++ ys)))
  | _, _, _ => False
theorem le_line {n : Nat} (h : n ≤ 1000000) : n ≤ sizeLine := by rw [sizeLine_eq]; omega
theorem lt_line {n : Nat} (h : n < 1000000) : n < sizeLine := by rw [sizeLine_eq]; omega
theorem repL_ne {G : Hp} {xs : List D} {vs : List V} (h : RepL K G xs vs) (n : xs ≠ []) : vs ≠ [] := fun z => by
  have := h.length
  rw [z] at this
  exact n (List.length_eq_zero_iff.mp this.symm)
theorem lo_add : LO K (fun x y H Q => (fun x y H Q => rI0 (fun i j => .int (i + j)) x y H Q ∨ (fun x y H Q => ∃ i j, x = .str i ∧ y = .str j ∧ i.length + j.length ≤ sizeLine ∧ Q (.str (i ++ j)) H) x y H Q) x y H Q ∨ (fun x y H Q => rCat x y H Q ∨ rCatT K x y H Q) x y H Q) fAdd := by
  intro b L G0 H0 G H σ e d1 d2 x y P Q g h1 h2 hf k
  unfold fAdd at hf
  split at hf
  · cases h1; cases h2
    exact .inl (.inl ⟨_, _, rfl, rfl, k _ (.sh (.int _)) G H (Stp.refl g.ex) rfl hf⟩)
  · cases h1; cases h2
    exact .inl (.inr ⟨_, _, rfl, rfl, le_line hf.1, k _ (.sh (.str _)) G H (Stp.refl g.ex) rfl hf.2⟩)
  · obtain ⟨a, vs, rfl, ha, hr⟩ := h1
    obtain ⟨a', vs', rfl, ha', hr'⟩ := h2
    refine .inr (.inl ⟨a, a', vs, vs', rfl, rfl, ha, ha', ?_, ?_⟩)
    · rw [hr.length, hr'.length]; exact le_line hf.1
    · exact g.newL (hr.append hr') hf.2 k
  · obtain ⟨a, vs, rfl, ha, hr⟩ := h1
    obtain ⟨a', vs', rfl, ha', hr'⟩ := h2
    refine .inr (.inr ⟨a, a', vs, vs', rfl, rfl, ha, ha', repL_ne hr hf.1, ?_, fun z => absurd z (repL_ne hr' hf.2.1), fun _ => ?_⟩)
    · rw [hr.length, hr'.length]; exact le_line hf.2.2.1
    · exact g.newT (hr.append hr') hf.2.2.2 k
  · exact hf.elim
theorem d_add {a c : Expr} {u1 u2 : DE} {pos : Pos} (h1 : PD X b a u1) (h2 : PD X b c u2) : PD X b (.BinOp a .Add c pos) (uBin fAdd u1 u2) :=
  d_bin (opR_or (opR_or op_add op_add_str) (opR_or op_cat op_catT)) lo_add h1 h2
/-- ints -/
def fI (C : Int → Int → Prop) (g : Int → Int → D) : D → D → (R → Prop) → Prop
  | .int i, .int j, P => C i j ∧ P (.sh (g i j))
  | _, _, _ => False
def fI0 (g : Int → Int → D) : D → D → (R → Prop) → Prop
  | .int i, .int j, P => P (.sh (g i j))
  | _, _, _ => False
theorem lo_I {C : Int → Int → Prop} {f : Int → Int → V} {g : Int → Int → D} (hg : ∀ i j G, Rep K G (g i j) (f i j)) : LO K (rI C f) (fI C g) := by
  refine LO.flat fun G H d1 d2 x y P Q ex h1 h2 hf k => ?_
  unfold fI at hf
  split at hf
  · cases h1; cases h2
    exact ⟨_, _, rfl, rfl, hf.1, k _ _ (hg _ _ G) hf.2⟩
  · exact hf.elim
theorem lo_I0 {f : Int → Int → V} {g : Int → Int → D} (hg : ∀ i j G, Rep K G (g i j) (f i j)) : LO K (rI0 f) (fI0 g) := by
  refine LO.flat fun G H d1 d2 x y P Q ex h1 h2 hf k => ?_
  unfold fI0 at hf
  split at hf
  · cases h1; cases h2
    exact ⟨_, _, rfl, rfl, k _ _ (hg _ _ G) hf⟩
  · exact hf.elim
abbrev fSub := fI0 fun i j => .int (i - j)
theorem d_sub {a c : Expr} {u1 u2 : DE} {pos : Pos} (h1 : PD X b a u1) (h2 : PD X b c u2) : PD X b (.BinOp a .Sub c pos) (uBin fSub u1 u2) := d_bin op_sub (lo_I0 fun _ _ _ => rfl) h1 h2
abbrev fMul := fI CMul fun i j => .int (i * j)
theorem d_mul {a c : Expr} {u1 u2 : DE} {pos : Pos} (h1 : PD X b a u1) (h2 : PD X b c u2) : PD X b (.BinOp a .Mult c pos) (uBin fMul u1 u2) := d_bin op_mul (lo_I fun _ _ _ => rfl) h1 h2
abbrev fMod := fI (fun _ j => 0 < j) fun i j => .int (i % j)
theorem d_mod {a c : Expr} {u1 u2 : DE} {pos : Pos} (h1 : PD X b a u1) (h2 : PD X b c u2) : PD X b (.BinOp a .Mod c pos) (uBin fMod u1 u2) := d_bin op_mod (lo_I fun _ _ _ => rfl) h1 h2
abbrev fDiv := fI CDiv fun i j => .int (i / j)
theorem d_div {a c : Expr} {u1 u2 : DE} {pos : Pos} (h1 : PD X b a u1) (h2 : PD X b c u2) : PD X b (.BinOp a .FloorDiv c pos) (uBin fDiv u1 u2) := d_bin op_fdiv (lo_I fun _ _ _ => rfl) h1 h2
abbrev fPow := fI CPow fun i j => .int (i ^ j.toNat)
theorem d_pow {a c : Expr} {u1 u2 : DE} {pos : Pos} (h1 : PD X b a u1) (h2 : PD X b c u2) : PD X b (.BinOp a .Pow c pos) (uBin fPow u1 u2) := d_bin op_pow (lo_I fun _ _ _ => rfl) h1 h2
abbrev fAnd := fI0 fun i j => .int (Builtin.bitAnd i j)
abbrev fXor := fI0 fun i j => .int (Builtin.bitXor i j)
/-- order: ints and texts -/
def fOrd (p : Int → Int → Bool) (q : Str → Str → Bool) : D → D → (R → Prop) → Prop
  | .int i, .int j, P => P (.sh (.bl (p i j)))
  | .str x, .str y, P => P (.sh (.bl (q x y)))
  | _, _, _ => False
theorem lo_ord {p : Int → Int → Bool} {q : Str → Str → Bool} : LO K (fun x y H Q => rI0 (fun i j => .bl (p i j)) x y H Q ∨ (fun x y H Q => ∃ i j, x = .str i ∧ y = .str j ∧ Q (.bl (q i j)) H) x y H Q) (fOrd p q) := by
  refine LO.flat fun G H d1 d2 x y P Q ex h1 h2 hf k => ?_
  unfold fOrd at hf
  split at hf
  · cases h1; cases h2
    exact .inl ⟨_, _, rfl, rfl, k _ (.bl _) rfl hf⟩
  · cases h1; cases h2
    exact .inr ⟨_, _, rfl, rfl, k _ (.bl _) rfl hf⟩
  · exact hf.elim
abbrev fLt := fOrd (fun i j => decide (i < j)) (fun x y => decide (x.cps.toList < y.cps.toList))
abbrev fLe := fOrd (fun i j => decide (i ≤ j)) (fun x y => decide (x.cps.toList ≤ y.cps.toList))
abbrev fGt := fI0 fun i j => .bl (decide (j < i))
abbrev fGe := fI0 fun i j => .bl (decide (j ≤ i))
theorem dt_lt {a c : Expr} {u1 u2 : DE} {pos : Pos} (h1 : PD X b a u1) (h2 : PD X b c u2) : PDT X b (.Compare a [.Lt] [c] pos) (uTest (uBin fLt u1 u2)) := dt_cmp (opR_or op_lt op_lt_str) lo_ord (nomark _) h1 h2
abbrev fLeI := fI0 fun i j => .bl (decide (i ≤ j))
theorem dt_gt {a c : Expr} {u1 u2 : DE} {pos : Pos} (h1 : PD X b a u1) (h2 : PD X b c u2) : PDT X b (.Compare a [.Gt] [c] pos) (uTest (uBin fGt u1 u2)) := dt_cmp op_gt (lo_I0 fun _ _ _ => rfl) (nomark _) h1 h2
theorem dt_ge {a c : Expr} {u1 u2 : DE} {pos : Pos} (h1 : PD X b a u1) (h2 : PD X b c u2) : PDT X b (.Compare a [.GtE] [c] pos) (uTest (uBin fGe u1 u2)) := dt_cmp op_ge (lo_I0 fun _ _ _ => rfl) (nomark _) h1 h2
end
end DL
namespace DL
open PySem L2
section
variable {X : Cx} {b : Bg} {K : PySem.W.Frag}
/-! ### equality -/
mutual
def toPy : D → PyData
  | .non => .none
  | .bl c => .bool c
  | .int i => .int i
  | .str s => .str s
  | .lst xs => .list (toPyL xs)
  | .tup xs => .tuple (toPyL xs)
  | .dk _ => .dict []
  | .obj _ _ => .dict []
  | .fn _ => .dict []
  | .exc _ _ => .dict []
  | .tabl _ _ => .dict []
def toPyL : List D → List PyData
  | [] => []
  | x :: xs => toPy x :: toPyL xs
end
-- no dict and no object within
mutual
def pure? : D → Bool
  | .lst xs => pureL xs
  | .tup xs => pureL xs
  | .dk _ => false
  | .obj _ _ => false
  | .fn _ => false
  | .exc _ _ => false
  | .tabl _ _ => false
  | _ => true
def pureL : List D → Bool
  | [] => true
  | x :: xs => pure? x && pureL xs
end
section
variable {G H : Hp}
mutual
theorem rep_dp (ex : Ex G H) : ∀ {d : D} {v : V}, pure? d = true → Rep K G d v → Dp K H v (toPy d)
  | .non, _, _, h => by cases h; exact .non
  | .bl c, _, _, h => by cases h; exact .bl c
  | .int i, _, _, h => by cases h; exact .int i
  | .str s, _, _, h => by cases h; exact .str s
  | .lst xs, _, p, ⟨a, vs, h1, h2, h3⟩ => by
    subst h1
    rcases Ex.old ex _ _ h2 with z | ⟨_, _, z, _⟩
    · exact .lst (SqL.of z) (repL_dp ex p h3)
    · cases z
  | .tup xs, _, p, ⟨a, vs, h1, h2, h3⟩ => by
    subst h1
    refine .tup ?_ (repL_dp ex p h3)
    rcases h2 with h2 | h2
    · rcases Ex.old ex _ _ h2 with z | ⟨_, _, z, _⟩
      · exact SqT.of z
      · cases z
    · exact .inr h2
  | .dk _, _, p, _ => by cases p
  | .obj _ _, _, p, _ => by cases p
  | .fn _, _, p, _ => by cases p
  | .exc _ _, _, p, _ => by cases p
  | .tabl _ _, _, p, _ => by cases p
theorem repL_dp (ex : Ex G H) : ∀ {xs : List D} {vs : List V}, pureL xs = true → RepL K G xs vs → DpAll K H vs (toPyL xs)
  | [], _, _, h => by cases h; exact .nil
  | x :: xs, _, p, ⟨v, r, h1, h2, h3⟩ => by
    subst h1
    have q : (pure? x && pureL xs) = true := p
    rw [Bool.and_eq_true] at q
    exact .cons (rep_dp ex q.1 h2) (repL_dp ex q.2 h3)
end
theorem top_dp (ex : Ex G H) {d : D} {v : V} (p : pure? d = true) (h : Top K G H d v) : Dp K H v (toPy d) := by
  cases d with
  | lst xs => obtain ⟨a, vs, rfl, h2, h3⟩ := h; exact .lst (SqL.of h2) (repL_dp ex p h3)
  | tup xs => obtain ⟨a, vs, rfl, h2, h3⟩ := h; exact .tup h2 (repL_dp ex p h3)
  | non => exact rep_dp ex p h
  | bl c => exact rep_dp ex p h
  | int i => exact rep_dp ex p h
  | str s => exact rep_dp ex p h
  | dk _ => cases p
  | obj _ _ => cases p
  | fn _ => cases p
  | exc _ _ => cases p
  | tabl _ _ => cases p
end
def okPy (d : D) : Prop := pure? d = true ∧ SeqAt.shaped (toPy d) = true
/-- == of values without parts -/
def eqF : D → D → Option Bool
  | .int i, .int j => some (decide (i = j))
  | .str x, .str y => some (decide (x = y))
  | .bl x, .bl y => some (decide (x = y))
  | .non, .non => some true
  | .non, .int _ => some false
  | .int _, .non => some false
  | .non, .bl _ => some false
  | .bl _, .non => some false
  | .non, .str _ => some false
  | .str _, .non => some false
  | .int _, .str _ => some false
  | .str _, .int _ => some false
  | .bl _, .str _ => some false
  | .str _, .bl _ => some false
  | _, _ => none
def fEq (d1 d2 : D) (P : R → Prop) : Prop := match eqF d1 d2 with
  | some c => P (.sh (.bl c))
  | none => okPy d1 ∧ okPy d2 ∧ P (.sh (.bl (PyData.eqv (toPy d1) (toPy d2))))
def fNe (d1 d2 : D) (P : R → Prop) : Prop := match eqF d1 d2 with
  | some c => P (.sh (.bl (!c)))
  | none => okPy d1 ∧ okPy d2 ∧ P (.sh (.bl (!PyData.eqv (toPy d1) (toPy d2))))
theorem eqF_scal {G H : Hp} {d1 d2 : D} {x y : V} {c : Bool} (h : eqF d1 d2 = some c) (h1 : Top K G H d1 x) (h2 : Top K G H d2 y) : scal x y = true ∧ decide (x = y) = c := by
  unfold eqF at h
  split at h <;> first | cases h | skip
  all_goals (cases h1; cases h2)
  all_goals first
    | exact ⟨rfl, by simp⟩
    | exact ⟨rfl, rfl⟩
theorem lo_eq : LO K (fun x y H Q => rEq x y H Q ∨ rEqD K x y H Q) fEq := by
  refine LO.flat fun G H d1 d2 x y P Q ex h1 h2 hf k => ?_
  unfold fEq at hf
  split at hf
  · rename_i c e
    obtain ⟨q1, q2⟩ := eqF_scal e h1 h2
    exact .inl ⟨q1, k _ (.bl c) (by rw [q2]; rfl) hf⟩
  · obtain ⟨⟨p1, s1⟩, ⟨p2, s2⟩, hp⟩ := hf
    exact .inr ⟨_, _, top_dp ex p1 h1, top_dp ex p2 h2, s1, s2, k _ (.bl _) rfl hp⟩
theorem lo_ne : LO K (fun x y H Q => rNe x y H Q ∨ rNeD K x y H Q) fNe := by
  refine LO.flat fun G H d1 d2 x y P Q ex h1 h2 hf k => ?_
  unfold fNe at hf
  split at hf
  · rename_i c e
    obtain ⟨q1, q2⟩ := eqF_scal e h1 h2
    exact .inl ⟨q1, k _ (.bl (!c)) (by rw [q2]; rfl) hf⟩
  · obtain ⟨⟨p1, s1⟩, ⟨p2, s2⟩, hp⟩ := hf
    exact .inr ⟨_, _, top_dp ex p1 h1, top_dp ex p2 h2, s1, s2, k _ (.bl _) rfl hp⟩
theorem d_eq {a c : Expr} {u1 u2 : DE} {pos : Pos} (hu : X.A.units + 64 < cLine) (h1 : PD X b a u1) (h2 : PD X b c u2) : PD X b (.Compare a [.Eq] [c] pos) (uBin fEq u1 u2) := d_cmp (opR_or op_eq (op_eqD hu)) lo_eq (nomark _) h1 h2
theorem dt_eq {a c : Expr} {u1 u2 : DE} {pos : Pos} (hu : X.A.units + 64 < cLine) (h1 : PD X b a u1) (h2 : PD X b c u2) : PDT X b (.Compare a [.Eq] [c] pos) (uTest (uBin fEq u1 u2)) := dt_cmp (opR_or op_eq (op_eqD hu)) lo_eq (nomark _) h1 h2
theorem dt_ne {a c : Expr} {u1 u2 : DE} {pos : Pos} (hu : X.A.units + 64 < cLine) (h1 : PD X b a u1) (h2 : PD X b c u2) : PDT X b (.Compare a [.NotEq] [c] pos) (uTest (uBin fNe u1 u2)) := dt_cmp (opR_or op_ne (op_neD hu)) lo_ne (nomark _) h1 h2
/-! ### is None -/
def isN : D → Bool
  | .non => true
  | _ => false
theorem isN_top {G H : Hp} {d : D} {x : V} (h : Top K G H d x) : decide (x = .non) = isN d := by
  cases d with
  | non => cases h; rfl
  | bl _ => cases h; rfl
  | int _ => cases h; rfl
  | str _ => cases h; rfl
  | lst _ => obtain ⟨a, vs, rfl, _⟩ := h; rfl
  | tup _ => obtain ⟨a, vs, rfl, _⟩ := h; rfl
  | dk _ => obtain ⟨a, vs, rfl, _⟩ := h; rfl
  | obj _ _ => obtain ⟨a, dx, vs, rfl, _⟩ := h; rfl
  | fn _ => cases h; rfl
  | exc _ _ => obtain ⟨a, dd, vs, rfl, _⟩ := h; rfl
  | tabl _ _ => obtain ⟨⟨a, rfl⟩, _⟩ := h; rfl
def fIs : D → D → (R → Prop) → Prop
  | d, .non, P => P (.sh (.bl (isN d)))
  | _, _, _ => False
def fIsNot : D → D → (R → Prop) → Prop
  | d, .non, P => P (.sh (.bl (!isN d)))
  | _, _, _ => False
theorem lo_is : LO K (fun x y H Q => y = .non ∧ Q (.bl (decide (x = .non))) H) fIs := by
  refine LO.flat fun G H d1 d2 x y P Q ex h1 h2 hf k => ?_
  unfold fIs at hf
  split at hf
  · cases h2
    exact ⟨rfl, k _ (.bl _) (by rw [isN_top h1]; rfl) hf⟩
  · exact hf.elim
theorem d_is {a c : Expr} {u1 u2 : DE} {pos : Pos} (h1 : PD X b a u1) (h2 : PD X b c u2) : PD X b (.Compare a [.Is] [c] pos) (uBin fIs u1 u2) := d_cmp op_isN lo_is (nomark _) h1 h2
theorem dt_is {a c : Expr} {u1 u2 : DE} {pos : Pos} (h1 : PD X b a u1) (h2 : PD X b c u2) : PDT X b (.Compare a [.Is] [c] pos) (uTest (uBin fIs u1 u2)) := dt_cmp op_isN lo_is (nomark _) h1 h2
/-! ### in -/
def flatD : D → Bool
  | .non => true
  | .bl _ => true
  | .int _ => true
  | .str _ => true
  | _ => false
/-- y == x, both without parts -/
def eqD : D → D → Bool
  | .non, .non => true
  | .bl a, .bl b => a == b
  | .bl a, .int b => (if a then 1 else 0) == b
  | .int a, .bl b => a == (if b then 1 else 0)
  | .int a, .int b => a == b
  | .str a, .str b => a == b
  | _, _ => false
def inD (x : D) (xs : List D) : Bool := xs.any fun y => eqD y x
theorem flat_top {G H : Hp} {d : D} {x : V} (f : flatD d = true) (h : Top K G H d x) : flatV x = true := by
  cases d with
  | non => cases h; rfl
  | bl _ => cases h; rfl
  | int _ => cases h; rfl
  | str _ => cases h; rfl
  | _ => cases f
theorem flat_rep {G : Hp} {d : D} {x : V} (f : flatD d = true) (h : Rep K G d x) : flatV x = true := by
  cases d with
  | non => cases h; rfl
  | bl _ => cases h; rfl
  | int _ => cases h; rfl
  | str _ => cases h; rfl
  | _ => cases f
theorem eqD_V {G H : Hp} {d e : D} {x y : V} (fd : flatD d = true) (fe : flatD e = true) (h : Rep K G d x) (h' : Top K G H e y) : eqV x y = eqD d e := by
  cases d <;> first | cases fd | skip
  all_goals (cases e <;> first | cases fe | skip)
  all_goals (cases h; cases h'; rfl)
theorem inD_V {G H : Hp} {d : D} {y : V} (fe : flatD d = true) (h' : Top K G H d y) : ∀ {xs : List D} {vs : List V}, xs.all flatD = true → RepL K G xs vs → vs.all flatV = true ∧ inV y vs = inD d xs
  | [], _, _, h => by cases h; exact ⟨rfl, rfl⟩
  | x :: xs, _, f, ⟨v, r, h1, h2, h3⟩ => by
    subst h1
    rw [List.all_cons, Bool.and_eq_true] at f
    obtain ⟨q1, q2⟩ := inD_V fe h' f.2 h3
    refine ⟨by rw [List.all_cons, flat_rep f.1 h2, q1]; rfl, ?_⟩
    unfold inV inD at q2 ⊢
    rw [List.any_cons, List.any_cons, eqD_V f.1 fe h2 h', q2]
/-- one sign -/
def sign (c : Nat) : Str := ⟨#[c]⟩
def fIn (d1 d2 : D) (P : R → Prop) : Prop := match d2 with
  | .lst xs => flatD d1 = true ∧ xs.all flatD = true ∧ P (.sh (.bl (inD d1 xs)))
  | .tup xs => flatD d1 = true ∧ xs.all flatD = true ∧ P (.sh (.bl (inD d1 xs)))
  | .str z => ∃ c, d1 = .str (sign c) ∧ P (.sh (.bl (decide (c ∈ z.cps.toList))))
  | _ => False
def fNotIn (d1 d2 : D) (P : R → Prop) : Prop := match d2 with
  | .lst xs => flatD d1 = true ∧ xs.all flatD = true ∧ P (.sh (.bl (!inD d1 xs)))
  | .tup xs => flatD d1 = true ∧ xs.all flatD = true ∧ P (.sh (.bl (!inD d1 xs)))
  | .str z => ∃ c, d1 = .str (sign c) ∧ P (.sh (.bl (!decide (c ∈ z.cps.toList))))
  | _ => False
theorem lo_in : LO K (fun x y H Q => rIn K false x y H Q ∨ (fun x y H Q => ∃ (c : Nat) (z : Str), x = .str ⟨#[c]⟩ ∧ y = .str z ∧ Q (.bl (decide (c ∈ z.cps.toList))) H) x y H Q) fIn := by
  refine LO.flat fun G H d1 d2 x y P Q ex h1 h2 hf k => ?_
  unfold fIn at hf
  split at hf
  · obtain ⟨f1, f2, hp⟩ := hf
    obtain ⟨a, vs, rfl, ha, hr⟩ := h2
    obtain ⟨q1, q2⟩ := inD_V f1 h1 f2 hr
    exact .inl ⟨a, vs, rfl, .inl (SqL.of ha), flat_top f1 h1, q1, k _ (.bl _) (by rw [q2]; rfl) hp⟩
  · obtain ⟨f1, f2, hp⟩ := hf
    obtain ⟨a, vs, rfl, ha, hr⟩ := h2
    obtain ⟨q1, q2⟩ := inD_V f1 h1 f2 hr
    exact .inl ⟨a, vs, rfl, .inr ha, flat_top f1 h1, q1, k _ (.bl _) (by rw [q2]; rfl) hp⟩
  · obtain ⟨c, rfl, hp⟩ := hf
    cases h1; cases h2
    exact .inr ⟨c, _, rfl, rfl, k _ (.bl _) rfl hp⟩
  · exact hf.elim
theorem lo_notin : LO K (fun x y H Q => rIn K true x y H Q ∨ (fun x y H Q => ∃ (c : Nat) (z : Str), x = .str ⟨#[c]⟩ ∧ y = .str z ∧ Q (.bl (!decide (c ∈ z.cps.toList))) H) x y H Q) fNotIn := by
  refine LO.flat fun G H d1 d2 x y P Q ex h1 h2 hf k => ?_
  unfold fNotIn at hf
  split at hf
  · obtain ⟨f1, f2, hp⟩ := hf
    obtain ⟨a, vs, rfl, ha, hr⟩ := h2
    obtain ⟨q1, q2⟩ := inD_V f1 h1 f2 hr
    exact .inl ⟨a, vs, rfl, .inl (SqL.of ha), flat_top f1 h1, q1, k _ (.bl _) (by rw [q2]; rfl) hp⟩
  · obtain ⟨f1, f2, hp⟩ := hf
    obtain ⟨a, vs, rfl, ha, hr⟩ := h2
    obtain ⟨q1, q2⟩ := inD_V f1 h1 f2 hr
    exact .inl ⟨a, vs, rfl, .inr ha, flat_top f1 h1, q1, k _ (.bl _) (by rw [q2]; rfl) hp⟩
  · obtain ⟨c, rfl, hp⟩ := hf
    cases h1; cases h2
    exact .inr ⟨c, _, rfl, rfl, k _ (.bl _) rfl hp⟩
  · exact hf.elim
theorem d_in {a c : Expr} {u1 u2 : DE} {pos : Pos} (h1 : PD X b a u1) (h2 : PD X b c u2) (hm : behindInMarks .In c = false := by with_unfolding_all rfl) : PD X b (.Compare a [.In] [c] pos) (uBin fIn u1 u2) := d_cmp (opR_or op_in_seq op_in_sign) lo_in hm h1 h2
/-! ### and, or, not, if else -/
def uAnd (t u : DT) : DT := fun e P => t e fun c => if c = true then u e P else P false
def uOr (t u : DT) : DT := fun e P => t e fun c => if c = true then P true else u e P
def uNot (t : DT) : DT := fun e P => t e fun c => P (!c)
theorem lt_and {t1 t2 : TT} {u1 u2 : DT} (h1 : LT K b t1 u1) (h2 : LT K b t2 u2) : LT K b (tAnd t1 t2) (uAnd u1 u2) := by
  intro L G0 H0 G H σ e P Q g hu k
  refine h1 L G0 H0 G H σ e _ _ g hu fun c G1 H1 s1 q1 => ?_
  cases c with
  | true => exact h2 L G0 H0 G1 H1 σ e P Q (g.step s1) q1 fun c G2 H2 s2 q2 => k c G2 H2 (s1.trans s2) q2
  | false => exact k false G1 H1 s1 q1
theorem lt_or {t1 t2 : TT} {u1 u2 : DT} (h1 : LT K b t1 u1) (h2 : LT K b t2 u2) : LT K b (tOr t1 t2) (uOr u1 u2) := by
  intro L G0 H0 G H σ e P Q g hu k
  refine h1 L G0 H0 G H σ e _ _ g hu fun c G1 H1 s1 q1 => ?_
  cases c with
  | false => exact h2 L G0 H0 G1 H1 σ e P Q (g.step s1) q1 fun c G2 H2 s2 q2 => k c G2 H2 (s1.trans s2) q2
  | true => exact k true G1 H1 s1 q1
theorem lt_not {t1 : TT} {u1 : DT} (h1 : LT K b t1 u1) : LT K b (tNot t1) (uNot u1) := by
  intro L G0 H0 G H σ e P Q g hu k
  exact h1 L G0 H0 G H σ e _ _ g hu fun c G1 H1 s1 q1 => k _ G1 H1 s1 q1
theorem dw_and {a c : Expr} {rest : List Expr} {u1 u2 : DT} {pos : Pos} (h1 : PDT X b a u1) (h2 : PDW X b (.BoolOp .And (c :: rest) pos) u2) : PDW X b (.BoolOp .And (a :: c :: rest) pos) (uAnd u1 u2) := by
  obtain ⟨t1, p1, l1⟩ := h1
  obtain ⟨t2, p2, l2⟩ := h2
  exact ⟨_, pw_and p1 p2, lt_and l1 l2⟩
theorem dw_or {a c : Expr} {rest : List Expr} {u1 u2 : DT} {pos : Pos} (h1 : PDT X b a u1) (h2 : PDW X b (.BoolOp .Or (c :: rest) pos) u2) : PDW X b (.BoolOp .Or (a :: c :: rest) pos) (uOr u1 u2) := by
  obtain ⟨t1, p1, l1⟩ := h1
  obtain ⟨t2, p2, l2⟩ := h2
  exact ⟨_, pw_or p1 p2, lt_or l1 l2⟩
theorem dw_and1 {a : Expr} {u1 : DT} {pos : Pos} (h1 : PDT X b a u1) : PDW X b (.BoolOp .And [a] pos) u1 := by
  obtain ⟨t1, p1, l1⟩ := h1
  exact ⟨_, pw_and1 p1, l1⟩
theorem dw_or1 {a : Expr} {u1 : DT} {pos : Pos} (h1 : PDT X b a u1) : PDW X b (.BoolOp .Or [a] pos) u1 := by
  obtain ⟨t1, p1, l1⟩ := h1
  exact ⟨_, pw_or1 p1, l1⟩
theorem PDW.pt {e : Expr} {u : DT} (h : PDW X b e u) : PDT X b e u := by
  obtain ⟨t, p, l⟩ := h
  exact ⟨t, p.pt, l⟩
theorem dt_not {a : Expr} {u1 : DT} {pos : Pos} (h1 : PDT X b a u1) : PDT X b (.UnaryOp .Not a pos) (uNot u1) := by
  obtain ⟨t1, p1, l1⟩ := h1
  exact ⟨_, pt_not p1, lt_not l1⟩
/-- as values: all are truth values -/
def uAndV (t u : DE) : DE := fun e P => t e (asB fun c => if c = true then u e P else P (.sh (.bl false)))
def uOrV (t u : DE) : DE := fun e P => t e (asB fun c => if c = true then P (.sh (.bl true)) else u e P)
def uNotV (t : DE) : DE := fun e P => t e (asB fun c => P (.sh (.bl (!c))))
theorem le_and {t1 t2 : TE} {u1 u2 : DE} (h1 : LE K b t1 u1) (h2 : LE K b t2 u2) : LE K b (tAndV t1 t2) (uAndV u1 u2) := by
  intro L G0 H0 G H σ e P Q g hu k
  refine h1 L G0 H0 G H σ e _ _ g hu fun v r G1 H1 s1 hr q1 => ?_
  obtain ⟨c, rfl, q⟩ := asB_of hr q1
  refine ⟨c, rfl, ?_⟩
  cases c with
  | true => exact h2 L G0 H0 G1 H1 σ e P Q (g.step s1) q fun v r G2 H2 s2 hr q2 => k v r G2 H2 (s1.trans s2) (hr.back fun a hb z => s1.back a hb z) q2
  | false => exact k _ (.sh (.bl false)) G1 H1 s1 rfl q
theorem d_and {a c : Expr} {rest : List Expr} {u1 u2 : DE} {pos : Pos} (h1 : PD X b a u1) (h2 : PD X b (.BoolOp .And (c :: rest) pos) u2) : PD X b (.BoolOp .And (a :: c :: rest) pos) (uAndV u1 u2) := by
  obtain ⟨t1, p1, l1⟩ := h1
  obtain ⟨t2, p2, l2⟩ := h2
  exact ⟨_, pe_and p1 p2, le_and l1 l2⟩
theorem d_one {op : BoolOp} {a : Expr} {u1 : DE} {pos : Pos} (h1 : PD X b a u1) : PD X b (.BoolOp op [a] pos) u1 := by
  obtain ⟨t1, p1, l1⟩ := h1
  exact ⟨_, pe_one p1, l1⟩
def uIfE (t : DT) (u1 u2 : DE) : DE := fun e P => t e fun c => if c = true then u1 e P else u2 e P
theorem d_if {c a a' : Expr} {t : DT} {u1 u2 : DE} {pos : Pos} (h : PDT X b c t) (h1 : PD X b a u1) (h2 : PD X b a' u2) : PD X b (.IfExp c a a' pos) (uIfE t u1 u2) := by
  obtain ⟨tt, p, l⟩ := h
  obtain ⟨t1, p1, l1⟩ := h1
  obtain ⟨t2, p2, l2⟩ := h2
  refine ⟨_, pe_ifExp p p1 p2, ?_⟩
  intro L G0 H0 G H σ e P Q g hu k
  refine l L G0 H0 G H σ e _ _ g hu fun c G1 H1 s1 q => ?_
  cases c with
  | true => exact l1 L G0 H0 G1 H1 σ e P Q (g.step s1) q fun v r G2 H2 s2 hr q2 => k v r G2 H2 (s1.trans s2) (hr.back fun a hb z => s1.back a hb z) q2
  | false => exact l2 L G0 H0 G1 H1 σ e P Q (g.step s1) q fun v r G2 H2 s2 hr q2 => k v r G2 H2 (s1.trans s2) (hr.back fun a hb z => s1.back a hb z) q2
/-- any value as a test -/
def truD (d : D) (P : Bool → Prop) : Prop := match d with
  | .non => P false
  | .bl c => P c
  | .int i => P (i != 0)
  | .str s => s.length ≤ 1000000 ∧ P ((s.length : Int) != 0)
  | .lst xs => P (!xs.isEmpty)
  | .tup xs => P (!xs.isEmpty)
  | _ => False
theorem repL_emp {G : Hp} {xs : List D} {vs : List V} (h : RepL K G xs vs) : vs.isEmpty = xs.isEmpty := by
  cases xs with
  | nil => cases h; rfl
  | cons x xs => obtain ⟨v, r, rfl, _⟩ := h; rfl
theorem truD_V {G H : Hp} {d : D} {v : V} {P : Bool → Prop} (h : Top K G H d v) (p : truD d P) : ∃ k, TruV K v H k ∧ P k := by
  unfold truD at p
  split at p
  · cases h; exact ⟨_, rfl, p⟩
  · cases h; exact ⟨_, rfl, p⟩
  · cases h; exact ⟨_, rfl, p⟩
  · cases h; exact ⟨_, ⟨le_line p.1, rfl⟩, p.2⟩
  · obtain ⟨a, vs, rfl, ha, hr⟩ := h; exact ⟨_, .inl ⟨vs, SqL.of ha, rfl⟩, by rw [repL_emp hr]; exact p⟩
  · obtain ⟨a, vs, rfl, ha, hr⟩ := h; exact ⟨_, .inr (.inl ⟨vs, ha, rfl⟩), by rw [repL_emp hr]; exact p⟩
  · exact p.elim
def uTru (u : DE) : DT := fun e P => u e fun r => truD r.look P
theorem dt_tru {a : Expr} {u : DE} (h : PD X b a u) (he : ∀ whole, isTrue a X.env whole = (do let v ← whole; standAt a.pos; holding [v] (truthy v)) := by intro _; rfl) : PDT X b a (uTru u) := by
  obtain ⟨t, p, l⟩ := h
  refine ⟨_, pt_truth p he, ?_⟩
  intro L G0 H0 G H σ e P Q g hu k
  refine l L G0 H0 G H σ e _ _ g hu fun v r G1 H1 s1 hr q => ?_
  obtain ⟨c, q1, q2⟩ := truD_V (hr.top (g.step s1)) q
  exact ⟨c, q1, k c G1 H1 s1 q2⟩
/-! ### arguments that are kept -/
def uNil : DA := fun _ P => P []
def uCons (u : DE) (ua : DA) : DA := fun e P => u e (R.keep fun d => ua e fun ds => P (d :: ds))
theorem la_nil : LA K b tNil uNil := fun L G0 H0 G H σ e P Q g h k => k [] [] G H (Stp.refl g.ex) rfl h
theorem la_cons {t : TE} {ta : TA} {u : DE} {ua : DA} (h1 : LE K b t u) (h2 : LA K b ta ua) : LA K b (tCons t ta) (uCons u ua) := by
  intro L G0 H0 G H σ e P Q g hu k
  refine h1 L G0 H0 G H σ e _ _ g hu fun v r G1 H1 s1 hr q => ?_
  obtain ⟨d, G1', s1', hd, q'⟩ := hr.freeze s1 q
  refine h2 L G0 H0 G1' H1 σ e _ _ (g.step s1') q' fun vs ds G2 H2 s2 hr2 q2 => ?_
  exact k (v :: vs) (d :: ds) G2 H2 (s1'.trans s2) ⟨v, vs, rfl, hd.mono s2.g, hr2⟩ q2
theorem da_nil : PDA X b [] uNil := ⟨_, pa_nil, la_nil⟩
theorem da_cons {a : Expr} {es : List Expr} {u : DE} {ua : DA} (h1 : PD X b a u) (h2 : PDA X b es ua) (hs : starEach (a :: es) X.env = (false, eval a X.env) :: starEach es X.env := by rfl) : PDA X b (a :: es) (uCons u ua) := by
  obtain ⟨t1, p1, l1⟩ := h1
  obtain ⟨t2, p2, l2⟩ := h2
  exact ⟨_, pa_cons p1 p2 hs, la_cons l1 l2⟩
/-! ### displays -/
def uLst (ua : DA) : DE := fun e P => ua e fun ds => ds.length ≤ 1000000 ∧ P (.ow (.lst ds))
def uTup (ua : DA) : DE := fun e P => ua e fun ds => ds.length ≤ 1000000 ∧ P (.sh (.tup ds))
theorem d_lst {es : List Expr} {ua : DA} {pos : Pos} (h : PDA X b es ua) : PD X b (.List es pos) (uLst ua) := by
  obtain ⟨t, p, l⟩ := h
  refine ⟨_, pe_lst p, ?_⟩
  intro L G0 H0 G H σ e P Q g hu k
  refine l L G0 H0 G H σ e _ _ g hu fun vs ds G1 H1 s1 hr q => ⟨by rw [hr.length]; exact le_line q.1, ?_⟩
  exact (g.step s1).newL hr q.2 fun v r G2 H2 s2 hr2 p2 => k v r G2 H2 (s1.trans s2) (hr2.back fun a hb z => s1.back a hb z) p2
theorem d_tup {es : List Expr} {ua : DA} {x1} {pos : Pos} (h : PDA X b es ua) : PD X b (.Tuple es x1 pos) (uTup ua) := by
  obtain ⟨t, p, l⟩ := h
  refine ⟨_, pe_tup p, ?_⟩
  intro L G0 H0 G H σ e P Q g hu k
  refine l L G0 H0 G H σ e _ _ g hu fun vs ds G1 H1 s1 hr q => ⟨by rw [hr.length]; exact le_line q.1, ?_⟩
  exact (g.step s1).newT hr q.2 fun v r G2 H2 s2 hr2 p2 => k v r G2 H2 (s1.trans s2) (hr2.back fun a hb z => s1.back a hb z) p2
/-! ### subscripts -/
def atI {α : Type} (xs : List α) : Int → Option α
  | .ofNat n => xs[n]?
  | .negSucc n => if n < xs.length then xs[xs.length - (n + 1)]? else none
theorem atI_ix {α : Type} {xs : List α} {i : Int} {x : α} (h : atI xs i = some x) : ∃ j, ixN xs.length i = some j ∧ xs[j]? = some x := by
  cases i with
  | ofNat n =>
    have h' : xs[n]? = some x := h
    have hn := (List.getElem?_eq_some_iff.mp h').1
    refine ⟨n, ?_, h'⟩
    unfold ixN
    show (if 0 ≤ (n : Int) then if (n : Int) < xs.length then some (n : Int).toNat else none else if -(xs.length : Int) ≤ (n : Int) then some ((n : Int) + xs.length).toNat else none) = some n
    rw [if_pos (by omega), if_pos (by omega)]
    simp
  | negSucc n =>
    by_cases c : n < xs.length
    · have h' : (if n < xs.length then xs[xs.length - (n + 1)]? else none) = some x := h
      rw [if_pos c] at h'
      refine ⟨xs.length - (n + 1), ?_, h'⟩
      unfold ixN
      rw [if_neg (by omega), if_pos (by omega)]
      congr 1
      omega
    · have h' : (if n < xs.length then xs[xs.length - (n + 1)]? else none) = some x := h
      rw [if_neg c] at h'
      cases h'
def orF {α : Type} (P : α → Prop) : Option α → Prop
  | some x => P x
  | none => False
theorem orF_of {α : Type} {P : α → Prop} {o : Option α} (h : orF P o) : ∃ x, o = some x ∧ P x := by
  cases o with
  | none => exact h.elim
  | some x => exact ⟨x, rfl, h⟩
def fIx (d1 d2 : D) (P : R → Prop) : Prop := match d1, d2 with
  | .lst xs, .int i => orF (fun x => P (.sh x)) (atI xs i)
  | .tup xs, .int i => orF (fun x => P (.sh x)) (atI xs i)
  | .str s, .int i => s.length ≤ 1000000 ∧ orF (fun c => P (.sh (.str (sign c)))) (atI s.cps.toList i)
  | _, _ => False
theorem atD_V {G : Hp} {xs : List D} {vs : List V} {i : Int} {x : D} (h : RepL K G xs vs) (e : atI xs i = some x) : ∃ v, L2.atI vs i = some v ∧ Rep K G x v := by
  obtain ⟨j, h1, h2⟩ := atI_ix e
  obtain ⟨v, h3, h4⟩ := h.get h2
  refine ⟨v, ?_, h4⟩
  unfold L2.atI
  rw [h.length, h1]
  exact h3
theorem lo_ix : LO K (rIx K) fIx := by
  refine LO.flat fun G H d1 d2 x y P Q ex h1 h2 hf k => ?_
  unfold fIx at hf
  split at hf
  · obtain ⟨z, e, hp⟩ := orF_of hf
    obtain ⟨a, vs, rfl, ha, hr⟩ := h1
    cases h2
    obtain ⟨v, e', hv⟩ := atD_V hr e
    exact .inl ⟨a, vs, _, v, rfl, rfl, SqL.of ha, e', k v z hv hp⟩
  · obtain ⟨z, e, hp⟩ := orF_of hf
    obtain ⟨a, vs, rfl, ha, hr⟩ := h1
    cases h2
    obtain ⟨v, e', hv⟩ := atD_V hr e
    exact .inr (.inl ⟨a, vs, _, v, rfl, rfl, ha, e', k v z hv hp⟩)
  · obtain ⟨hz, hf⟩ := hf
    obtain ⟨c, e, hp⟩ := orF_of hf
    cases h1; cases h2
    obtain ⟨j, q1, q2⟩ := atI_ix e
    refine .inr (.inr ⟨_, _, c, rfl, rfl, le_line hz, ?_, k _ (.str _) rfl hp⟩)
    unfold L2.atI
    rw [q1]
    exact q2
  · exact hf.elim
theorem d_ix {a c : Expr} {u1 u2 : DE} {pos : Pos} (h1 : PD X b a u1) (h2 : PD X b c u2) (hs : PlainIx c := by exact fun _ _ => rfl) : PD X b (.Subscript a c pos) (uBin fIx u1 u2) := by
  obtain ⟨t1, p1, l1⟩ := h1
  obtain ⟨t2, p2, l2⟩ := h2
  exact ⟨_, pe_ix ix_seq p1 p2 hs, le_bin lo_ix l1 l2⟩
/-- an item at a place -/
theorem ix_at {xs : List D} {n : Nat} {x : D} {P : R → Prop} (h : xs[n]? = some x) (p : P (.sh x)) : fIx (.lst xs) (.int (n : Int)) P := by
  show orF (fun x => P (.sh x)) xs[n]?
  rw [h]
  exact p
theorem ix_mem {xs : List D} {j : Int} {P : R → Prop} (h0 : 0 ≤ j) (h1 : j < (xs.length : Int)) (p : ∀ x ∈ xs, P (.sh x)) : fIx (.lst xs) (.int j) P := by
  obtain ⟨n, rfl⟩ := Int.eq_ofNat_of_zero_le h0
  have hn : n < xs.length := by omega
  exact ix_at (x := xs[n]) (by simp [hn]) (p _ (List.getElem_mem hn))
theorem ix_atT {xs : List D} {n : Nat} {x : D} {P : R → Prop} (h : xs[n]? = some x) (p : P (.sh x)) : fIx (.tup xs) (.int (n : Int)) P := by
  show orF (fun x => P (.sh x)) xs[n]?
  rw [h]
  exact p
theorem ix_memT {xs : List D} {j : Int} {P : R → Prop} (h0 : 0 ≤ j) (h1 : j < (xs.length : Int)) (p : ∀ x ∈ xs, P (.sh x)) : fIx (.tup xs) (.int j) P := by
  obtain ⟨n, rfl⟩ := Int.eq_ofNat_of_zero_le h0
  have hn : n < xs.length := by omega
  exact ix_atT (x := xs[n]) (by simp [hn]) (p _ (List.getElem_mem hn))
end
end DL
namespace DL
open PySem L2
section
variable {X : Cx} {b : Bg} {K : PySem.W.Frag}
/-! ### slices -/
abbrev DO := List Sl → (Option Int → Prop) → Prop
def asI (P : Option Int → Prop) : R → Prop
  | .sh (.int i) => P (some i)
  | _ => False
structure PDO (X : Cx) (b : Bg) (o : Option Expr) (u : DO) : Prop where
  ex : ∃ t, PO X o t ∧ ∀ (L : Lk) (G0 H0 G H : Hp) (σ : L2.St) (e : List Sl) (P : Option Int → Prop) (Q : Option Int → Hp → Prop), Good X.K b L G0 H0 G H σ e → u e P → (∀ c G' H', Stp b [] G H G' H' → P c → Q c H') → t σ H Q
def uNo : DO := fun _ P => P none
def uPart (u : DE) : DO := fun e P => u e (asI P)
theorem do_none : PDO X b none uNo := ⟨_, po_none, fun L G0 H0 G H σ e P Q g h k => k none G H (Stp.refl g.ex) h⟩
theorem do_some {a : Expr} {u : DE} (h : PD X b a u) : PDO X b (some a) (uPart u) := by
  obtain ⟨t, p, l⟩ := h
  refine ⟨_, po_some p, ?_⟩
  intro L G0 H0 G H σ e P Q g hu k
  refine l L G0 H0 G H σ e _ _ g hu fun v r G1 H1 s1 hr q => ?_
  cases r with
  | sh d =>
    cases d with
    | int i => cases hr; exact ⟨i, rfl, k _ G1 H1 s1 q⟩
    | _ => exact q.elim
  | _ => exact q.elim
def cutD (xs : List D) (lo hi : Option Int) : List D := (xs.drop (HT.sIx xs.length 0 lo)).take (HT.sIx xs.length xs.length hi - HT.sIx xs.length 0 lo)
theorem cut_rep {G : Hp} {xs : List D} {vs : List V} (h : RepL K G xs vs) (lo hi : Option Int) : RepL K G (cutD xs lo hi) (cutV vs lo hi) := by
  unfold cutD cutV
  rw [h.length]
  exact (h.drop _).take _
def fSl (d : D) (lo hi : Option Int) (P : R → Prop) : Prop := match d with
  | .lst xs => P (.ow (.lst (cutD xs lo hi)))
  | .str s => s.length ≤ 1000000 ∧ P (.sh (.str (cutS s lo hi)))
  | .tup xs => ¬ (HT.sIx xs.length 0 lo = 0 ∧ HT.sIx xs.length xs.length hi = xs.length) ∧ P (.sh (.tup (cutD xs lo hi)))
  | _ => False
def uSl (u : DE) (ul uh : DO) : DE := fun e P => u e fun r => ul e fun l => uh e fun h => fSl r.look l h P
theorem d_slice {a : Expr} {lo hi : Option Expr} {u : DE} {ul uh : DO} {p2 pos : Pos} (h : PD X b a u) (hl : PDO X b lo ul) (hh : PDO X b hi uh) : PD X b (.Subscript a (.Slice lo hi none p2) pos) (uSl u ul uh) := by
  obtain ⟨t, p, l⟩ := h
  obtain ⟨t1, p1, l1⟩ := hl
  obtain ⟨t3, p3, l3⟩ := hh
  refine ⟨_, pe_slice (sl_list.or (sl_str.or sl_tup)) p p1 p3, ?_⟩
  intro L G0 H0 G H σ e P Q g hu k
  refine l L G0 H0 G H σ e _ _ g hu fun v r G1 H1 s1 hr q => ?_
  refine l1 L G0 H0 G1 H1 σ e _ _ (g.step s1) q fun i G2 H2 s2 q2 => ?_
  refine l3 L G0 H0 G2 H2 σ e _ _ ((g.step s1).step s2) q2 fun j G3 H3 s3 q3 => ?_
  have g3 := ((g.step s1).step s2).step s3
  have s03 := (s1.trans s2).trans s3
  have tp := ((hr.step s2).step s3).top g3
  have k' : ∀ v r G' H', Stp b [] G3 H3 G' H' → RepR X.K b H3 σ e G' H' r v → P r → Q v H' := fun v r G' H' s hr hp => k v r G' H' (s03.trans s) (hr.back fun a hb z => s03.back a hb z) hp
  show (rSlL X.K v i j H3 Q ∨ rSlS v i j H3 Q ∨ rSlT X.K v i j H3 Q)
  unfold fSl at q3
  split at q3
  · rename_i xs e
    rw [e] at tp
    obtain ⟨a, vs, rfl, ha, hr⟩ := tp
    exact .inl ⟨a, vs, rfl, SqL.of ha, g3.newL (cut_rep hr _ _) q3 k'⟩
  · rename_i s e
    rw [e] at tp
    cases tp
    exact .inr (.inl ⟨_, rfl, le_line q3.1, k' _ (.sh (.str _)) G3 H3 (Stp.refl g3.ex) rfl q3.2⟩)
  · rename_i xs e
    rw [e] at tp
    obtain ⟨a, vs, rfl, ha, hr⟩ := tp
    exact .inr (.inr ⟨a, vs, rfl, ha, by rw [hr.length]; exact q3.1, g3.newT (cut_rep hr _ _) q3.2 k'⟩)
  · exact q3.elim
/-! ### built-ins of one argument -/
def LC (K : PySem.W.Frag) (r : List V → Hp → VK → Prop) (f : D → (R → Prop) → Prop) : Prop := ∀ (b : Bg) (L : Lk) (G0 H0 G H : Hp) (σ : L2.St) (e : List Sl) (d : D) (x : V) (P : R → Prop) (Q : VK), Good K b L G0 H0 G H σ e →
  Top K G H d x → f d P → (∀ v r G' H', Stp b [] G H G' H' → RepR K b H σ e G' H' r v → P r → Q v H') → r [x] H Q
def uB (f : D → (R → Prop) → Prop) (u : DE) : DE := fun e P => u e fun r => f r.look P
theorem le_c1 {r : List V → Hp → VK → Prop} {f : D → (R → Prop) → Prop} {t : TE} {u : DE} (h : LC K r f) (h1 : LE K b t u) : LE K b (tCB r (tCons t tNil)) (uB f u) := by
  intro L G0 H0 G H σ e P Q g hu k
  refine h1 L G0 H0 G H σ e _ _ g hu fun v1 r1 G1 H1 s1 hr1 q1 => ?_
  have g1 := g.step s1
  exact h b L G0 H0 G1 H1 σ e _ v1 P Q g1 (hr1.top g1) q1 fun v r G' H' s hr hp => k v r G' H' (s1.trans s) (hr.back fun a hb z => s1.back a hb z) hp
theorem d_b1 {id : String} {r : List V → Hp → VK → Prop} {f : D → (R → Prop) → Prop} {x : Str} {a : Expr} {u : DE} {p pos : Pos} (hc : CallR X (.builtin id) r) (h : LC X.K r f) (hm : X.mg x = none) (hv : bootBuiltins x = some (.builtin id)) (h1 : PD X b a u) (hg : Gl X x := by rfl)
    (hn : x ≠ "__name__" := by decide) (hdb : (x == ("__debug__" : Str)) = false := by decide) (hs : starEach (a :: []) X.env = (false, eval a X.env) :: starEach [] X.env := by rfl) (hpl : (backTo pos (starEach [] X.env)).any (·.1) = false := by rfl) :
    PD X b (.Call (.Name x p) [a] [] pos) (uB f u) := by
  obtain ⟨t1, p1, l1⟩ := h1
  exact ⟨_, pe_callB hc hg hm hv (pa_cons p1 pa_nil hs) hn hdb hs hpl, le_c1 h l1⟩
theorem d_t1 {T : String} {r : List V → Hp → VK → Prop} {f : D → (R → Prop) → Prop} {x : Str} {a : Expr} {u : DE} {p pos : Pos} (hc : CallR X (.type T) r) (h : LC X.K r f) (hm : X.mg x = none) (hv : bootBuiltins x = some (.type T)) (h1 : PD X b a u) (hg : Gl X x := by rfl)
    (hn : x ≠ "__name__" := by decide) (hdb : (x == ("__debug__" : Str)) = false := by decide) (hs : starEach (a :: []) X.env = (false, eval a X.env) :: starEach [] X.env := by rfl) (hpl : (backTo pos (starEach [] X.env)).any (·.1) = false := by rfl) :
    PD X b (.Call (.Name x p) [a] [] pos) (uB f u) := by
  obtain ⟨t1, p1, l1⟩ := h1
  exact ⟨_, pe_callTy hc hg hm hv (pa_cons p1 pa_nil hs) hn hdb hs hpl, le_c1 h l1⟩
theorem callR_or {f : Value} {r r' : List V → Hp → VK → Prop} (h : CallR X f r) (h' : CallR X f r') : CallR X f (fun xs H Q => r xs H Q ∨ r' xs H Q) := by
  intro pins s σ H xs us Q I rs q
  rcases q with q | q
  · exact h pins s σ H xs us Q I rs q
  · exact h' pins s σ H xs us Q I rs q
/-- len -/
def fLen (d : D) (P : R → Prop) : Prop := match d with
  | .lst xs => P (.sh (.int xs.length))
  | .tup xs => P (.sh (.int xs.length))
  | .str s => s.length ≤ 1000000 ∧ P (.sh (.int s.length))
  | _ => False
theorem lc_len : LC K (fun xs H Q => (fun xs H Q => ∃ p ys, xs = [.ref p] ∧ (SqL K H p ys ∨ SqT K H p ys) ∧ Q (.int ys.length) H) xs H Q ∨ (fun xs H Q => ∃ z : Str, xs = [.str z] ∧ z.length ≤ sizeLine ∧ Q (.int z.length) H) xs H Q) fLen := by
  intro b L G0 H0 G H σ e d x P Q g h hf k
  have k' : ∀ i : Int, P (.sh (.int i)) → Q (.int i) H := fun i p => k _ (.sh (.int i)) G H (Stp.refl g.ex) rfl p
  unfold fLen at hf
  split at hf
  · obtain ⟨a, vs, rfl, ha, hr⟩ := h
    exact .inl ⟨a, vs, rfl, .inl (SqL.of ha), by rw [hr.length]; exact k' _ hf⟩
  · obtain ⟨a, vs, rfl, ha, hr⟩ := h
    exact .inl ⟨a, vs, rfl, .inr ha, by rw [hr.length]; exact k' _ hf⟩
  · cases h
    exact .inr ⟨_, rfl, le_line hf.1, k' _ hf.2⟩
  · exact hf.elim
theorem d_len {a : Expr} {u : DE} {p pos : Pos} (hm : X.mg "len" = none) (h1 : PD X b a u) (hg : Gl X "len" := by rfl) (hs : starEach (a :: []) X.env = (false, eval a X.env) :: starEach [] X.env := by rfl) (hpl : (backTo pos (starEach [] X.env)).any (·.1) = false := by rfl) :
    PD X b (.Call (.Name "len" p) [a] [] pos) (uB fLen u) := d_b1 (callR_or call_len_seq call_len_str) lc_len hm PySem.boot_len h1 hg (hs := hs) (hpl := hpl)
/-- int of an int, of a truth value -/
def fInt (d : D) (P : R → Prop) : Prop := match d with
  | .int i => P (.sh (.int i))
  | .bl c => P (.sh (.int (if c then 1 else 0)))
  | _ => False
theorem lc_int : LC K (fun xs H Q => (∃ i, xs = [.int i] ∧ Q (.int i) H) ∨ ∃ k, xs = [.bl k] ∧ Q (.int (if k then 1 else 0)) H) fInt := by
  intro b L G0 H0 G H σ e d x P Q g h hf k
  unfold fInt at hf
  split at hf
  · cases h; exact .inl ⟨_, rfl, k _ (.sh (.int _)) G H (Stp.refl g.ex) rfl hf⟩
  · cases h; exact .inr ⟨_, rfl, k _ (.sh (.int _)) G H (Stp.refl g.ex) rfl hf⟩
  · exact hf.elim
theorem d_intc {a : Expr} {u : DE} {p pos : Pos} (hm : X.mg "int" = none) (h1 : PD X b a u) (hg : Gl X "int" := by rfl) (hs : starEach (a :: []) X.env = (false, eval a X.env) :: starEach [] X.env := by rfl) (hpl : (backTo pos (starEach [] X.env)).any (·.1) = false := by rfl) :
    PD X b (.Call (.Name "int" p) [a] [] pos) (uB fInt u) := d_t1 call_int1 lc_int hm (by decide +kernel) h1 hg (hs := hs) (hpl := hpl)
/-- all of a list of truth values; sum of ints -/
def fAll (d : D) (P : R → Prop) : Prop := ∃ bs : List Bool, d = .lst (bs.map .bl) ∧ P (.sh (.bl (bs.all id)))
theorem lc_all : LC K (rAll K) fAll := by
  intro b L G0 H0 G H σ e d x P Q g h hf k
  obtain ⟨bs, rfl, hp⟩ := hf
  obtain ⟨a, vs, rfl, ha, hr⟩ := h
  rw [repL_bl hr] at ha
  exact ⟨a, bs, rfl, SqL.of ha, k _ (.sh (.bl _)) G H (Stp.refl g.ex) rfl hp⟩
theorem d_all {a : Expr} {u : DE} {p pos : Pos} (hm : X.mg "all" = none) (h1 : PD X b a u) (hc : X.calm = true := by rfl) (hg : Gl X "all" := by rfl) (hs : starEach (a :: []) X.env = (false, eval a X.env) :: starEach [] X.env := by rfl) (hpl : (backTo pos (starEach [] X.env)).any (·.1) = false := by rfl) :
    PD X b (.Call (.Name "all" p) [a] [] pos) (uB fAll u) := d_b1 (cr_all hc) lc_all hm (by decide +kernel) h1 hg (hs := hs) (hpl := hpl)
/-! ### methods of built-ins: a text, one argument -/
def LM (K : PySem.W.Frag) (r : V → List V → Hp → VK → Prop) (f : D → D → (R → Prop) → Prop) : Prop := ∀ (b : Bg) (L : Lk) (G0 H0 G H : Hp) (σ : L2.St) (e : List Sl) (d1 d2 : D) (x y : V) (P : R → Prop) (Q : VK), Good K b L G0 H0 G H σ e →
  Top K G H d1 x → Top K G H d2 y → f d1 d2 P → (∀ v r G' H', Stp b [] G H G' H' → RepR K b H σ e G' H' r v → P r → Q v H') → r x [y] H Q
/-- o.m(e), o a text -/
def uM1 (f : D → D → (R → Prop) → Prop) (uo u : DE) : DE := fun e P => uo e fun r1 => (∃ s, r1.look = .str s) ∧ u e fun r2 => f r1.look r2.look P
theorem le_m1 {r : V → List V → Hp → VK → Prop} {f : D → D → (R → Prop) → Prop} {t1 t2 : TE} {u1 u2 : DE} (h : LM K r f) (h1 : LE K b t1 u1) (h2 : LE K b t2 u2) : LE K b (tM1 r t1 t2) (uM1 f u1 u2) := by
  intro L G0 H0 G H σ e P Q g hu k
  refine h1 L G0 H0 G H σ e _ _ g hu fun v1 r1 G1 H1 s1 hr1 q1 => ?_
  have g1 := g.step s1
  obtain ⟨⟨z, ez⟩, q1⟩ := q1
  have tp := hr1.top g1
  rw [ez] at tp
  refine ⟨⟨z, tp⟩, ?_⟩
  refine h2 L G0 H0 G1 H1 σ e _ _ g1 q1 fun v2 r2 G2 H2 s2 hr2 q2 => ?_
  have g2 := g1.step s2
  refine h b L G0 H0 G2 H2 σ e _ _ v1 v2 P Q g2 ((hr1.step s2).top g2) (hr2.top g2) q2 fun v r G' H' s hr hp => ?_
  exact k v r G' H' ((s1.trans s2).trans s) (hr.back fun a hb z => s1.back a hb (s2.back a hb z)) hp
def fJoin (d1 d2 : D) (P : R → Prop) : Prop := ∃ (a : Str) (ys : List Str), d1 = .str a ∧ (d2 = .lst (ys.map .str) ∨ d2 = .tup (ys.map .str)) ∧ (ys.map (·.length)).sum + ys.length * a.length ≤ 1000000 ∧ P (.sh (.str (Txt.join a ys)))
theorem lm_join : LM K (fun x xs H Q => ∃ a p, ∃ ys : List Str, x = .str a ∧ xs = [.ref p] ∧ (SqL K H p (ys.map V.str) ∨ SqT K H p (ys.map V.str)) ∧ (ys.map (·.length)).sum + ys.length * a.length ≤ 16777216 ∧ Q (.str (Txt.join a ys)) H) fJoin := by
  intro b L G0 H0 G H σ e d1 d2 x y P Q g h1 h2 hf k
  obtain ⟨a, ys, rfl, h, hz, hp⟩ := hf
  cases h1
  have kk := k _ (.sh (.str _)) G H (Stp.refl g.ex) rfl hp
  rcases h with rfl | rfl
  · obtain ⟨p, vs, rfl, ha, hr⟩ := h2
    rw [repL_str hr] at ha
    exact ⟨a, p, ys, rfl, rfl, .inl (SqL.of ha), by omega, kk⟩
  · obtain ⟨p, vs, rfl, ha, hr⟩ := h2
    rw [repL_str hr] at ha
    exact ⟨a, p, ys, rfl, rfl, .inr ha, by omega, kk⟩
theorem d_join {o a : Expr} {uo u : DE} {apos pos : Pos} (ho : PD X b o uo) (h : PD X b a u) (hbase : attributeBase o "join" X.env (eval o X.env) = eval o X.env := by rfl)
    (hf : ∀ {to te : TE}, PE X o to → PE X a te → PE X (.Call (.Attribute o "join" apos) [a] [] pos) (tM1 (fun x xs H Q => ∃ a p, ∃ ys : List Str, x = .str a ∧ xs = [.ref p] ∧ (SqL X.K H p (ys.map V.str) ∨ SqT X.K H p (ys.map V.str)) ∧ (ys.map (·.length)).sum + ys.length * a.length ≤ 16777216 ∧ Q (.str (Txt.join a ys)) H) to te) := by exact fun h1 h2 => pe_join h1 h2) :
    PD X b (.Call (.Attribute o "join" apos) [a] [] pos) (uM1 fJoin uo u) := by
  obtain ⟨t1, p1, l1⟩ := ho
  obtain ⟨t2, p2, l2⟩ := h
  exact ⟨_, hf p1 p2, le_m1 lm_join l1 l2⟩

/-! ### defs -/
abbrev FS := List D → (R → Prop) → Prop
/-- a def whose arguments are data, whose answer is data -/
def spN (K : PySem.W.Frag) (f : FS) : Sp := fun vs H Q _ => ∃ G ds P, Ex G H ∧ RepL K G ds vs ∧ f ds P ∧ ∀ v r G' H', Stp none [] G H G' H' → RepR K none H [] [] G' H' r v → P r → Q v H'
/-- the same, ahead of them the source of draws -/
def spB (K : PySem.W.Frag) (f : FS) : Sp := fun vs H Q _ => ∃ a vs' G ds P, vs = .ref a :: vs' ∧ Ex G H ∧ BagOk G H a ∧ RepL K G ds vs' ∧ f ds P ∧ ∀ v r G' H', Stp (some a) [] G H G' H' → RepR K (some a) H [] [] G' H' r v → P r → Q v H'
/-- a def that stands at its name -/
structure Known (P : Program) (w : World) (K : PySem.W.Frag) (mg : Str → Option Value) (base : Heap) (x : Str) (k : Nat) (ps : List Str) (sp : Sp) : Prop where
  ex : ∃ f fd, FnOk P w K mg base CX0 k f fd ps sp ∧ mg x = some (.ref f) ∧ PySem.W.keepIn K (.ref f) = true ∧ Binds K fd ps []
def uCall (f : FS) (ua : DA) : DE := fun e P => ua e fun ds => f ds P
theorem d_call {x : Str} {k : Nat} {ps : List Str} {f : FS} {a : Expr} {es : List Expr} {ua : DA} {p pos : Pos} (F : Known X.prog X.w X.K X.mg X.base x k ps (spN X.K f)) (hr : Room k X.A) (ha : PDA X b (a :: es) ua) (hg : Gl X x := by rfl)
    (hdb : (x == ("__debug__" : Str)) = false := by decide) (he : starEach (a :: es) X.env = (false, eval a X.env) :: starEach es X.env := by rfl) (hpl : (backTo pos (starEach es X.env)).any (·.1) = false := by rfl) : PD X b (.Call (.Name x p) (a :: es) [] pos) (uCall f ua) := by
  obtain ⟨fa, fd, F, hm, hk, hb⟩ := F
  obtain ⟨t, pa, l⟩ := ha
  refine ⟨_, pe_call F hr hg hm hk hb .nil pass0 pa hdb he hpl, ?_⟩
  intro L G0 H0 G H σ e P Q g hu k
  refine l L G0 H0 G H σ e _ _ g hu fun vs ds G1 H1 s1 hds q => ?_
  have g1 := g.step s1
  show spN X.K f (vs ++ []) H1 Q E0
  rw [List.append_nil]
  refine ⟨G1, ds, P, g1.ex, hds, q, fun v r G' H' s hr hp => ?_⟩
  have s' : Stp b [] G1 H1 G' H' := s.some
  refine k v r G' H' (s1.trans s') ?_ hp
  cases r with
  | sh d => exact hr
  | ow o =>
    obtain ⟨a, ho, h1, _, h3, h4⟩ := hr
    have hb : b.a ≠ some a := g1.nb h3
    exact ⟨a, ho, h1, hb, s1.back a hb h3, h4⟩
  | al i o => obtain ⟨⟨_, h⟩, _⟩ := hr; simp at h
  | tr t => exact NewT.imp hr fun a hb h3 => ⟨g1.nb h3, s1.back a (g1.nb h3) h3⟩
theorem d_call0 {x : Str} {k : Nat} {ps : List Str} {f : FS} {p pos : Pos} (F : Known X.prog X.w X.K X.mg X.base x k ps (spN X.K f)) (hr : Room k X.A) (hg : Gl X x := by rfl) (hdb : (x == ("__debug__" : Str)) = false := by decide) : PD X b (.Call (.Name x p) [] [] pos) (uCall f uNil) := by
  obtain ⟨fa, fd, F, hm, hk, hb⟩ := F
  refine ⟨_, pe_call0 F hr hg hm hk hb .nil pass0 hdb, ?_⟩
  intro L G0 H0 G H σ e P Q g hu k
  refine ⟨G, [], P, g.ex, rfl, hu, fun v r G' H' s hr hp => ?_⟩
  have s' : Stp b [] G H G' H' := s.some
  refine k v r G' H' s' ?_ hp
  cases r with
  | sh d => exact hr
  | ow o =>
    obtain ⟨a, ho, h1, _, h3, h4⟩ := hr
    exact ⟨a, ho, h1, g.nb h3, h3, h4⟩
  | al i o => obtain ⟨⟨_, h⟩, _⟩ := hr; simp at h
  | tr t => exact NewT.imp hr fun a hb h3 => ⟨g.nb h3, h3⟩
/-- a call with the source of draws in slot i -/
def uCallB (f : FS) (i : Nat) (ua : DA) : DE := fun e P => nth e i = .bag ∧ ua e fun ds => f ds P
theorem d_callB {x y : Str} {i k : Nat} {ps : List Str} {f : FS} {es : List Expr} {ua : DA} {p py pos : Pos} (F : Known X.prog X.w X.K X.mg X.base x k ps (spB X.K f)) (hr : Room k X.A) (ha : PDA X b es ua) (hN : X.N[i]? = some y := by rfl)
    (hv : Vis X.env.scope y := by first | exact Or.inl rfl | exact Or.inr (Or.inl rfl) | exact Or.inr (Or.inr rfl)) (hg : Gl X x := by rfl) (hdb : (x == ("__debug__" : Str)) = false := by decide) (hdy : (y == ("__debug__" : Str)) = false := by decide) (hcy : (y == ("__classdict__" : Str)) = false := by decide)
    (he : starEach (.Name y py :: es) X.env = (false, eval (.Name y py) X.env) :: starEach es X.env := by rfl) (hpl : (backTo pos (starEach es X.env)).any (·.1) = false := by rfl) : PD X b (.Call (.Name x p) (.Name y py :: es) [] pos) (uCallB f i ua) := by
  obtain ⟨fa, fd, F, hm, hk, hb⟩ := F
  obtain ⟨t, pa, l⟩ := ha
  refine ⟨_, pe_call F hr hg hm hk hb .nil pass0 (pa_cons (pe_var hN hv hdy hcy) pa he) hdb he hpl, ?_⟩
  intro L G0 H0 G H σ e P Q g hu k
  obtain ⟨hi, hu⟩ := hu
  obtain ⟨a, ea, hs⟩ := g.slot i _ (nth_get hi (by simp))
  refine ⟨_, hs, ?_⟩
  refine l L G0 H0 G H σ e _ _ g hu fun vs ds G1 H1 s1 hds q => ?_
  have g1 := g.step s1
  show spB X.K f (.ref a :: vs ++ []) H1 Q E0
  rw [List.append_nil]
  refine ⟨a, vs, G1, ds, P, rfl, g1.ex, g1.bag a ea, hds, q, fun v r G' H' s hr hp => ?_⟩
  rw [← ea] at s hr
  refine k v r G' H' (s1.trans s) ?_ hp
  cases r with
  | sh d => exact hr
  | ow o =>
    obtain ⟨a, ho, h1, hb, h3, h4⟩ := hr
    exact ⟨a, ho, h1, hb, s1.back a hb h3, h4⟩
  | al i o => obtain ⟨⟨_, h⟩, _⟩ := hr; simp at h
  | tr t => exact NewT.imp hr fun a hb h3 => ⟨hb, s1.back a hb h3⟩
end
end DL
namespace DL
open PySem L2
structure DEnds where
  nx : List Sl → Prop
  rt : R → List Sl → Prop
  bk : List Sl → Prop := fun _ => False
  ct : List Sl → Prop := fun _ => False
abbrev DS := DEnds → List Sl → Prop
structure EndsOk (K : PySem.W.Frag) (b : Bg) (L : Lk) (G0 H0 : Hp) (DD : DEnds) (D : Ends) : Prop where
  nx : ∀ G H σ e, Good K b L G0 H0 G H σ e → DD.nx e → D.nx σ H
  rt : ∀ G H σ e v r, Good K b L G0 H0 G H σ e → RepR K b H0 [] [] G H r v → DD.rt r e → D.rt v H
  bk : ∀ G H σ e, Good K b L G0 H0 G H σ e → DD.bk e → D.bk σ H
  ct : ∀ G H σ e, Good K b L G0 H0 G H σ e → DD.ct e → D.ct σ H
def LS (K : PySem.W.Frag) (b : Bg) (t : TS) (u : DS) : Prop := ∀ (L : Lk) (G0 H0 G H : Hp) (σ : L2.St) (e : List Sl) (DD : DEnds) (D : Ends), Good K b L G0 H0 G H σ e → EndsOk K b L G0 H0 DD D → u DD e → t D σ H
structure PDS (X : Cx) (b : Bg) (st : Stmt) (u : DS) : Prop where
  ex : ∃ t, PS X st t ∧ LS X.K b t u
structure PDSs (X : Cx) (b : Bg) (st : List Stmt) (u : DS) : Prop where
  ex : ∃ t, PSs X st t ∧ LS X.K b t u
section
variable {X : Cx} {b : Bg} {K : PySem.W.Frag}
def uNext : DS := fun DD e => DD.nx e
def uSeq (u1 u2 : DS) : DS := fun DD e => u1 { DD with nx := u2 DD } e
theorem ls_seq {t1 t2 : TS} {u1 u2 : DS} (h1 : LS K b t1 u1) (h2 : LS K b t2 u2) : LS K b (tSeq t1 t2) (uSeq u1 u2) := by
  intro L G0 H0 G H σ e DD D g ok h
  exact h1 L G0 H0 G H σ e { DD with nx := u2 DD } { D with nx := t2 D } g ⟨fun G H σ e g h => h2 L G0 H0 G H σ e DD D g ok h, ok.rt, ok.bk, ok.ct⟩ h
theorem dss_nil : PDSs X b [] uNext := ⟨_, pss_nil, fun L G0 H0 G H σ e DD D g ok h => ok.nx G H σ e g h⟩
theorem dss_cons {st : Stmt} {rest : List Stmt} {u1 u2 : DS} (h1 : PDS X b st u1) (h2 : PDSs X b rest u2) : PDSs X b (st :: rest) (uSeq u1 u2) := by
  obtain ⟨t1, p1, l1⟩ := h1
  obtain ⟨t2, p2, l2⟩ := h2
  exact ⟨_, pss_cons p1 p2, ls_seq l1 l2⟩
theorem dss_one {st : Stmt} {u : DS} (h : PDS X b st u) : PDSs X b [st] u := by
  obtain ⟨t, p, l⟩ := h
  exact ⟨_, pss_one p, l⟩
theorem get_lt {α : Type} {l : List α} {i : Nat} {x : α} (h : l[i]? = some x) : i < l.length := (List.getElem?_eq_some_iff.mp h).1
theorem get_set {α : Type} {l : List α} {i j : Nat} {x : α} : (l.set i x)[j]? = if i = j then (if i < l.length then some x else none) else l[j]? := by
  rw [List.getElem?_set]
/-- a slot that owns nothing is set -/
theorem Good0.injSet {b : Option Addr} {L : Lk} {G0 H0 G H : Hp} {σ σ' : L2.St} {e : List Sl} (g : Good0 K b L G0 H0 G H σ e) (i : Nat) {x : Sl} (hx : ∀ s a, ¬ Fp x s a) (hs : ∀ k, k ≠ i → σ'[k]? = σ[k]?) :
    ∀ (j k : Nat) (t : OT) (y : Sl) (a : Addr), (e.set i x)[j]? = some (.tr t) → (e.set i x)[k]? = some y → a ∈ t.ad → Fp y σ'[k]? a → j = k := fun j k t y a h1 h2 h3 h4 => by
  rw [get_set] at h1 h2
  by_cases c : i = j
  · rw [if_pos c] at h1
    split at h1
    · cases h1
      exact absurd (show Fp (.tr t) none a from h3) (hx none a)
    · cases h1
  · by_cases c' : i = k
    · rw [if_pos c'] at h2
      split at h2
      · cases h2
        exact absurd h4 (hx _ a)
      · cases h2
    · rw [if_neg c] at h1
      rw [if_neg c'] at h2
      rw [hs k (fun z => c' z.symm)] at h4
      exact g.injT j k t y a h1 h2 h3 h4
theorem set_off {σ : L2.St} {i : Nat} {w : Option V} (k : Nat) (h : k ≠ i) : (σ.set i w)[k]? = σ[k]? := by rw [get_set, if_neg (fun z => h z.symm)]
/-- a slot is set -/
theorem Good.setS {L : Lk} {G0 H0 G H : Hp} {σ : L2.St} {e : List Sl} (g : Good K b L G0 H0 G H σ e) (i : Nat) {d : D} {v : V} (h : Rep K G d v) : Good K b L G0 H0 G H (σ.set i (some v)) (e.set i (.sh d)) where
  stp := g.stp
  slot := fun j x hx => by
    rw [get_set] at hx ⊢
    by_cases c : i = j
    · rw [if_pos c] at hx ⊢
      by_cases d' : i < e.length
      · rw [if_pos d'] at hx
        cases hx
        rw [if_pos (by rw [← g.len]; exact d')]
        exact ⟨v, rfl, h⟩
      · rw [if_neg d'] at hx; cases hx
    · rw [if_neg c] at hx ⊢
      exact g.slot j x hx
  inj := fun j k t t' o o' a h1 h2 h3 h4 => by
    rw [get_set] at h1 h2 h3 h4
    by_cases c : i = j
    · rw [if_pos c] at h1
      split at h1 <;> cases h1
    · by_cases c' : i = k
      · rw [if_pos c'] at h2
        split at h2 <;> cases h2
      · rw [if_neg c] at h1 h3
        rw [if_neg c'] at h2 h4
        exact g.inj j k t t' o o' a h1 h2 h3 h4
  bag := g.bag
  lk := g.lk
  len := by rw [List.length_set, List.length_set]; exact g.len
  injT := g.toGood0.injSet i (fun _ _ h => h) set_off
  xl := g.xl
/-- a value may be taken by a slot: new since the entry, no other slot's -/
def Fresh (H0 : Hp) (σ : L2.St) (e : List Sl) (a : Addr) : Prop := H0 a = none ∧ ∀ (j : Nat) (y : Sl), e[j]? = some y → ¬ Fp y σ[j]? a
theorem Good.setO {L : Lk} {G0 H0 G H : Hp} {σ : L2.St} {e : List Sl} (g : Good K b L G0 H0 G H σ e) (i : Nat) {o : OD} {a : Addr} {ho : HO} (hb : b.a ≠ some a) (f : Fresh H0 σ e a) (hg : G a = none) (hh : H a = some ho) (h : RepO K G o ho) :
    Good K b L G0 H0 G H (σ.set i (some (.ref a))) (e.set i (.own none o)) where
  stp := g.stp
  slot := fun j x hx => by
    rw [get_set] at hx ⊢
    by_cases c : i = j
    · rw [if_pos c] at hx ⊢
      by_cases d' : i < e.length
      · rw [if_pos d'] at hx
        cases hx
        rw [if_pos (by rw [← g.len]; exact d')]
        exact ⟨a, ho, rfl, hb, f.1, hg, hh, h, fun _ z => by cases z⟩
      · rw [if_neg d'] at hx; cases hx
    · rw [if_neg c] at hx ⊢
      exact g.slot j x hx
  inj := fun j k t1 t2 o1 o2 a' h1 h2 h3 h4 => by
    rw [get_set] at h1 h2 h3 h4
    by_cases c : i = j
    · by_cases c' : i = k
      · exact c.symm.trans c'
      · rw [if_neg c'] at h2 h4
        rw [if_pos c] at h3
        split at h3
        · cases h3
          exact absurd h4 (f.2 k (.own t2 o2) h2)
        · cases h3
    · by_cases c' : i = k
      · rw [if_neg c] at h1 h3
        rw [if_pos c'] at h4
        split at h4
        · cases h4
          exact absurd h3 (f.2 j (.own t1 o1) h1)
        · cases h4
      · rw [if_neg c] at h1 h3
        rw [if_neg c'] at h2 h4
        exact g.inj j k t1 t2 o1 o2 a' h1 h2 h3 h4
  bag := g.bag
  lk := g.lk
  len := by rw [List.length_set, List.length_set]; exact g.len
  injT := fun j k t y c h1 h2 h3 h4 => by
    rw [get_set] at h1 h2 h4
    by_cases c1 : i = j
    · rw [if_pos c1] at h1
      split at h1 <;> cases h1
    · rw [if_neg c1] at h1
      by_cases c2 : i = k
      · rw [if_pos c2] at h2 h4
        split at h2
        · cases h2
          split at h4
          · have h4 : some (some (V.ref a)) = some (some (V.ref c)) := h4
            cases h4
            exact absurd h3 (f.2 j (.tr t) h1)
          · cases h4
        · cases h2
      · rw [if_neg c2] at h2 h4
        exact g.injT j k t y c h1 h2 h3 h4
  xl := g.xl
/-- an owned thing changes -/
theorem Good.upd {L : Lk} {G0 H0 G H : Hp} {σ : L2.St} {e : List Sl} (g : Good K b L G0 H0 G H σ e) {i : Nat} {q : Option Addr} {o o' : OD} {a : Addr} {ho : HO} (hi : e[i]? = some (.own q o)) (hs : σ[i]? = some (some (.ref a))) (hm : ∀ od u, H a ≠ some (.frz od u)) (h : RepO K G o' ho) :
    Good K b L G0 H0 G (upd H a ho) σ (e.set i (.own q o')) := by
  obtain ⟨a', ho', h1, h2, h3, h4, h5, h6, h7⟩ := g.slot i _ hi
  rw [hs] at h1
  cases h1
  refine ⟨⟨⟨g.stp.g, fun c u hc nm hu => ?_, g.stp.new, fun c u hu => ?_, fun c hc h => ?_⟩, fun j x hx => ?_, fun j k t1 t2 o1 o2 c q1 q2 q3 q4 => ?_, fun c hc => ?_, fun c od u m => ?_, by rw [List.length_set]; exact g.len, fun j k t y c h1 h2 h3 h4 => ?_⟩, g.xl⟩
  · have hca : c ≠ a := fun z => by rw [z, h3] at hu; cases hu
    rw [upd_ne hca]
    exact g.stp.fr c u hc nm hu
  · rw [upd_ne (ne_of_none hu h4)]
    exact g.ex c u hu
  · have q := g.stp.bag c hc h
    obtain ⟨z1, s, ns, i, n, z, z2, z3⟩ := q
    have hca : c ≠ a := fun z => h2 (by rw [← z]; exact hc)
    exact ⟨z1, s, ns, i, n, z, by rw [upd_ne hca]; exact z2, z3⟩
  · rw [get_set] at hx
    by_cases c : i = j
    · rw [if_pos c] at hx
      split at hx
      · cases hx
        subst c
        exact ⟨a, ho, hs, h2, h3, h4, upd_same, h, h7⟩
      · cases hx
    · rw [if_neg c] at hx
      have q := g.slot j x hx
      cases x with
      | un => trivial
      | sh d => exact q
      | own t2 o2 =>
        obtain ⟨a2, ho2, z1, z2, z3, z4, z5, z6⟩ := q
        have ne : a2 ≠ a := fun z => by
          subst z
          exact c (g.inj i j _ _ o o2 a2 hi hx hs z1)
        exact ⟨a2, ho2, z1, z2, z3, z4, by rw [upd_ne ne]; exact z5, z6⟩
      | bag => exact q
      | tr t =>
        obtain ⟨v, z1, z2⟩ := q
        refine ⟨v, z1, z2.node, z2.rep.frame (Sub.refl G) fun c1 hc1 o1 ho1 => ?_, z2.nd, z2.ok⟩
        rw [upd_ne (fun z : c1 = a => c (g.injT j i t _ a hx hi (by rw [← z]; exact hc1) hs).symm)]
        exact ho1
  · have tr : ∀ {j : Nat} {t1 : Option Addr} {o1 : OD}, (e.set i (.own q o'))[j]? = some (.own t1 o1) → ∃ t3 o3, e[j]? = some (.own t3 o3) := fun {j t1 o1} q => by
      rw [get_set] at q
      by_cases c : i = j
      · subst c; exact ⟨_, _, hi⟩
      · rw [if_neg c] at q; exact ⟨_, _, q⟩
    obtain ⟨_, _, q1⟩ := tr q1
    obtain ⟨_, _, q2⟩ := tr q2
    exact g.inj j k _ _ _ _ c q1 q2 q3 q4
  · obtain ⟨z1, s, ns, i, n, z, z2, z3⟩ := g.bag c hc
    have hca : c ≠ a := fun z => h2 (by rw [← z]; exact hc)
    exact ⟨z1, s, ns, i, n, z, by rw [upd_ne hca]; exact z2, z3⟩
  · have q := g.lk c od u m
    have hca : c ≠ a := fun z => hm od u (by rw [← z]; exact q)
    rw [upd_ne hca]; exact q
  · rw [get_set] at h1 h2
    by_cases c1 : i = j
    · rw [if_pos c1] at h1
      split at h1 <;> cases h1
    · rw [if_neg c1] at h1
      by_cases c2 : i = k
      · rw [if_pos c2] at h2
        split at h2
        · cases h2
          subst c2
          exact g.injT j i t _ c h1 hi h3 h4
        · cases h2
      · rw [if_neg c2] at h2
        exact g.injT j k t y c h1 h2 h3 h4
/-- an owned thing is given up: from now on it is shared -/
theorem Good.frz {L : Lk} {G0 H0 G H : Hp} {σ : L2.St} {e : List Sl} (g : Good K b L G0 H0 G H σ e) {i : Nat} {q : Option Addr} {o : OD} (hi : e[i]? = some (.own q o)) : ∃ G', Good K b L G0 H0 G' H σ (e.set i (.sh o.d)) := by
  obtain ⟨a, ho, h1, h2, h3, h4, h5, h6, h7⟩ := g.slot i _ hi
  have sub := sub_upd (o := ho) h4
  refine ⟨L2.upd G a ho, ⟨⟨g.stp.g.trans sub, g.stp.fr, fun c hc hu hg => ?_, fun c u hu => ?_, fun c hc h => ?_⟩, fun j x hx => ?_, fun j k t1 t2 o1 o2 c q1 q2 q3 q4 => ?_, fun c hc => ?_, g.lk, by rw [List.length_set]; exact g.len, g.toGood0.injSet i (fun _ _ h => h) (fun _ _ => rfl)⟩, g.xl⟩
  · rw [upd_ne (fun z => hu (by rw [z]; exact h3))]
    exact g.stp.new c hc hu hg
  · by_cases z : c = a
    · subst z; rw [upd_same] at hu; cases hu; exact .inl h5
    · rw [upd_ne z] at hu; exact (g.ex c u hu).mono sub
  · obtain ⟨z1, s, ns, i, n, z, z2, z3, z4⟩ := g.stp.bag c hc h
    exact ⟨by rw [upd_ne (fun z => h2 (by rw [← z]; exact hc))]; exact z1, s, ns, i, n, z, z2, sub _ _ z3, z4⟩
  · rw [get_set] at hx
    by_cases c : i = j
    · rw [if_pos c] at hx
      split at hx
      · cases hx
        subst c
        exact ⟨_, h1, h6.rep h4⟩
      · cases hx
    · rw [if_neg c] at hx
      have q := g.slot j x hx
      cases x with
      | un => trivial
      | sh d => obtain ⟨v, z1, z2⟩ := q; exact ⟨v, z1, z2.mono sub⟩
      | own t2 o2 =>
        obtain ⟨a2, ho2, z1, z2, z3, z4, z5, z6, z7⟩ := q
        have ne : a2 ≠ a := fun z => by
          subst z
          exact c (g.inj i j _ _ o o2 a2 hi hx h1 z1)
        exact ⟨a2, ho2, z1, z2, z3, by rw [upd_ne ne]; exact z4, z5, z6.mono sub, z7⟩
      | bag => exact q
      | tr t =>
        obtain ⟨v, z1, z2⟩ := q
        exact ⟨v, z1, z2.node, z2.rep.frame sub fun _ _ _ h => h, z2.nd, fun c1 hc1 => ⟨(z2.ok c1 hc1).1, (z2.ok c1 hc1).2.1, by rw [upd_ne (fun z : c1 = a => c (g.injT j i t _ a hx hi (by rw [← z]; exact hc1) h1).symm)]; exact (z2.ok c1 hc1).2.2⟩⟩
  · have tr : ∀ {j : Nat} {t1 : Option Addr} {o1 : OD}, (e.set i (.sh o.d))[j]? = some (.own t1 o1) → e[j]? = some (.own t1 o1) := fun {j t1 o1} q => by
      rw [get_set] at q
      by_cases c : i = j
      · rw [if_pos c] at q; split at q <;> cases q
      · rw [if_neg c] at q; exact q
    exact g.inj j k _ _ _ _ c (tr q1) (tr q2) q3 q4
  · obtain ⟨z1, s, ns, i, n, z, z2, z3, z4⟩ := g.bag c hc
    exact ⟨by rw [upd_ne (fun z => h2 (by rw [← z]; exact hc))]; exact z1, s, ns, i, n, z, z2, sub _ _ z3, z4⟩
def uFrz (i : Nat) (u : DS) : DS := fun DD e => match nth e i with
  | .own _ o => u DD (e.set i (.sh o.d))
  | _ => False
theorem dss_frz (i : Nat) {st : List Stmt} {u : DS} (h : PDSs X b st u) : PDSs X b st (uFrz i u) := by
  obtain ⟨t, p, l⟩ := h
  refine ⟨t, p, ?_⟩
  intro L G0 H0 G H σ e DD D g ok hu
  unfold uFrz at hu
  split at hu
  · rename_i t o ho
    obtain ⟨G', g'⟩ := g.frz (nth_get ho (by simp))
    exact l L G0 H0 G' H σ _ DD D g' ok hu
  · exact hu.elim
/-- what leaves nothing in a slot that one reads again is forgotten -/
theorem Good.un {L : Lk} {G0 H0 G H : Hp} {σ : L2.St} {e : List Sl} (g : Good K b L G0 H0 G H σ e) (i : Nat) : Good K b L G0 H0 G H σ (e.set i .un) where
  stp := g.stp
  slot := fun j x hx => by
    rw [get_set] at hx
    by_cases c : i = j
    · rw [if_pos c] at hx
      split at hx
      · cases hx; trivial
      · cases hx
    · rw [if_neg c] at hx; exact g.slot j x hx
  inj := fun j k t1 t2 o1 o2 c q1 q2 q3 q4 => by
    have tr : ∀ {j : Nat} {t1 : Option Addr} {o1 : OD}, (e.set i .un)[j]? = some (.own t1 o1) → e[j]? = some (.own t1 o1) := fun {j t1 o1} q => by
      rw [get_set] at q
      by_cases c : i = j
      · rw [if_pos c] at q; split at q <;> cases q
      · rw [if_neg c] at q; exact q
    exact g.inj j k _ _ _ _ c (tr q1) (tr q2) q3 q4
  bag := g.bag
  lk := g.lk
  len := by rw [List.length_set]; exact g.len
  injT := g.toGood0.injSet i (fun _ _ h => h) (fun _ _ => rfl)
  xl := g.xl

/-! ### expressions that change an owned thing on the way -/
abbrev DX := List Sl → (R → List Sl → Prop) → Prop
def RepX (K : PySem.W.Frag) (b : Bg) (H0 : Hp) (σ : L2.St) (e : List Sl) (G H : Hp) : R → V → Prop
  | .sh d, v => Rep K G d v
  | .ow o, v => ∃ a ho, v = .ref a ∧ b.a ≠ some a ∧ Fresh H0 σ e a ∧ G a = none ∧ H a = some ho ∧ RepO K G o ho
  | .al i o, v => (∃ q, e[i]? = some (.own q o)) ∧ σ[i]? = some (some v)
  | .tr t, v => NewT K b.a (fun a => Fresh H0 σ e a) G H t v
def LX (K : PySem.W.Frag) (b : Bg) (t : TE) (u : DX) : Prop := ∀ (L : Lk) (G0 H0 G H : Hp) (σ : L2.St) (e : List Sl) (P : R → List Sl → Prop) (Q : VK), Good K b L G0 H0 G H σ e → u e P →
  (∀ v r e' G' H', Good K b L G0 H0 G' H' σ e' → RepX K b H0 σ e' G' H' r v → P r e' → Q v H') → t σ H Q
structure PDX (X : Cx) (b : Bg) (a : Expr) (u : DX) : Prop where
  ex : ∃ t, PE X a t ∧ LX X.K b t u
def uX (u : DE) : DX := fun e P => u e fun r => P r e
theorem Good.fresh {L : Lk} {G0 H0 G H : Hp} {σ : L2.St} {e : List Sl} (g : Good K b L G0 H0 G H σ e) {a : Addr} (hb : b.a ≠ some a) (h : H a = none) : Fresh H0 σ e a := by
  refine ⟨?_, fun j y hj hs => ?_⟩
  · exact g.stp.backL a hb h
  · cases y with
    | own t' o' =>
      have hs : σ[j]? = some (some (.ref a)) := hs
      obtain ⟨a2, ho2, z1, _, _, _, z5, _, _⟩ := g.slot j _ hj
      rw [hs] at z1
      cases z1
      rw [h] at z5
      cases z5
    | tr t =>
      obtain ⟨v, _, z2⟩ := g.slot j _ hj
      obtain ⟨o, ho⟩ := z2.rep.live a hs
      rw [h] at ho
      cases ho
    | _ => exact hs
theorem lx_of {t : TE} {u : DE} (h : LE K b t u) : LX K b t (uX u) := by
  intro L G0 H0 G H σ e P Q g hu k
  refine h L G0 H0 G H σ e _ Q g hu fun v r G' H' s hr p => k v r e G' H' (g.step s) ?_ p
  cases r with
  | sh d => exact hr
  | ow o =>
    obtain ⟨a, ho, h1, h2, h3, h4⟩ := hr
    exact ⟨a, ho, h1, h2, g.fresh h2 h3, h4⟩
  | al i o => exact hr
  | tr t => exact NewT.imp hr fun a h2 h3 => ⟨h2, g.fresh h2 h3⟩
theorem PD.x {a : Expr} {u : DE} (h : PD X b a u) : PDX X b a (uX u) := by
  obtain ⟨t, p, l⟩ := h
  exact ⟨t, p, lx_of l⟩
theorem RepX.freeze {L : Lk} {G0 H0 G H : Hp} {σ : L2.St} {e : List Sl} {r : R} {v : V} {P : D → Prop} (g : Good K b L G0 H0 G H σ e) (h : RepX K b H0 σ e G H r v) (k : r.keep P) : ∃ d G', Good K b L G0 H0 G' H σ e ∧ Rep K G' d v ∧ P d := by
  cases r with
  | sh d => exact ⟨d, G, g, h, k⟩
  | al i o => exact k.elim
  | tr t => exact k.elim
  | ow o =>
    obtain ⟨a, ho, rfl, h2, ⟨h3, h3'⟩, h4, h5, h6⟩ := h
    have sub := sub_upd (o := ho) h4
    refine ⟨o.d, L2.upd G a ho, ⟨⟨⟨g.stp.g.trans sub, g.stp.fr, fun c hc hu hg => ?_, fun c u hu => ?_, fun c hc h => ?_⟩, fun j x hx => ?_, g.inj, fun c hc => ?_, g.lk, g.len, g.injT⟩, g.xl⟩, h6.rep h4, k⟩
    · rw [upd_ne (fun z => hu (by rw [z]; exact h3))]
      exact g.stp.new c hc hu hg
    · by_cases z : c = a
      · subst z; rw [upd_same] at hu; cases hu; exact .inl h5
      · rw [upd_ne z] at hu; exact (g.ex c u hu).mono sub
    · obtain ⟨z1, s, ns, i, n, z, z2, z3, z4⟩ := g.stp.bag c hc h
      exact ⟨by rw [upd_ne (fun z => h2 (by rw [← z]; exact hc))]; exact z1, s, ns, i, n, z, z2, sub _ _ z3, z4⟩
    · have q := g.slot j x hx
      cases x with
      | un => trivial
      | sh d => obtain ⟨v, z1, z2⟩ := q; exact ⟨v, z1, z2.mono sub⟩
      | own t2 o2 =>
        obtain ⟨a2, ho2, z1, z2, z3, z4, z5, z6, z7⟩ := q
        have ne : a2 ≠ a := fun z => by
          subst z
          exact h3' j (.own t2 o2) hx z1
        exact ⟨a2, ho2, z1, z2, z3, by rw [upd_ne ne]; exact z4, z5, z6.mono sub, z7⟩
      | bag => exact q
      | tr t =>
        obtain ⟨v, z1, z2⟩ := q
        exact ⟨v, z1, z2.node, z2.rep.frame sub fun _ _ _ h => h, z2.nd, fun c1 hc1 => ⟨(z2.ok c1 hc1).1, (z2.ok c1 hc1).2.1, by rw [upd_ne (fun z : c1 = a => h3' j (.tr t) hx (by rw [← z]; exact hc1))]; exact (z2.ok c1 hc1).2.2⟩⟩
    · obtain ⟨z1, s, ns, i, n, z, z2, z3, z4⟩ := g.bag c hc
      exact ⟨by rw [upd_ne (fun z => h2 (by rw [← z]; exact hc))]; exact z1, s, ns, i, n, z, z2, sub _ _ z3, z4⟩

/-! ### statements -/
/-- x = e, kept for good -/
def uSet (i : Nat) (u : DX) : DS := fun DD e => u e fun r e' => r.keep fun d => DD.nx (e'.set i (.sh d))
theorem ds_set {i : Nat} {x : Str} {a : Expr} {u : DX} {pos pos' : Pos} (h : PDX X b a u) (hN : X.N.Nodup) (hi : X.N[i]? = some x := by rfl) (hx : Loc X.env.scope x := by first | exact Or.inl rfl | exact Or.inr rfl) (hs : swapsWith a (some (.Name x pos')) pos.line X.env = pure false := by rfl)
    (hf : X.fn x = true ∨ X.env.scope.names.lookup x = some .local := by first | exact .inl rfl | exact .inr rfl | assumption) : PDS X b (.Assign [.Name x pos'] a pos) (uSet i u) := by
  obtain ⟨t, p, l⟩ := h
  refine ⟨_, ps_set hN hi hx p hs hf, ?_⟩
  intro L G0 H0 G H σ e DD D g ok hu
  refine l L G0 H0 G H σ e _ _ g hu fun v r e' G' H' g' hr q => ?_
  obtain ⟨d, G2, g2, hd, q⟩ := hr.freeze g' q
  exact ok.nx _ _ _ _ (g2.setS i hd) q
/-- x = e, e new, to be changed -/
def uOwn (i : Nat) (u : DX) : DS := fun DD e => u e fun r e' => match r with
  | .ow o => DD.nx (e'.set i (.own none o))
  | _ => False
theorem ds_own {i : Nat} {x : Str} {a : Expr} {u : DX} {pos pos' : Pos} (h : PDX X b a u) (hN : X.N.Nodup) (hi : X.N[i]? = some x := by rfl) (hx : Loc X.env.scope x := by first | exact Or.inl rfl | exact Or.inr rfl) (hs : swapsWith a (some (.Name x pos')) pos.line X.env = pure false := by rfl)
    (hf : X.fn x = true ∨ X.env.scope.names.lookup x = some .local := by first | exact .inl rfl | exact .inr rfl | assumption) : PDS X b (.Assign [.Name x pos'] a pos) (uOwn i u) := by
  obtain ⟨t, p, l⟩ := h
  refine ⟨_, ps_set hN hi hx p hs hf, ?_⟩
  intro L G0 H0 G H σ e DD D g ok hu
  refine l L G0 H0 G H σ e _ _ g hu fun v r e' G' H' g' hr q => ?_
  cases r with
  | ow o =>
    obtain ⟨a, ho, rfl, h2, h3, h4, h5, h6⟩ := hr
    exact ok.nx _ _ _ _ (g'.setO i h2 h3 h4 h5 h6) q
  | _ => exact q.elim
def R.ret : R → R
  | .al _ o => .ow o
  | r => r
def uRet (u : DX) : DS := fun DD e => u e fun r e' => DD.rt r.ret e'
theorem ds_ret {a : Expr} {u : DX} {pos : Pos} (h : PDX X b a u) : PDS X b (.Return (some a) pos) (uRet u) := by
  obtain ⟨t, p, l⟩ := h
  refine ⟨_, ps_ret p, ?_⟩
  intro L G0 H0 G H σ e DD D g ok hu
  refine l L G0 H0 G H σ e _ _ g hu fun v r e' G' H' g' hr q => ?_
  refine ok.rt G' H' σ e' v r.ret g' ?_ q
  cases r with
  | sh d => exact hr
  | ow o =>
    obtain ⟨a, ho, h1, h2, h3, h4⟩ := hr
    exact ⟨a, ho, h1, h2, h3.1, h4⟩
  | tr t => exact NewT.imp hr fun a h2 h3 => ⟨h2, h3.1⟩
  | al i o =>
    obtain ⟨⟨_, h1⟩, h2⟩ := hr
    obtain ⟨a, ho, q1, q2, q3, q4, q5, q6, _⟩ := g'.slot i _ h1
    rw [h2] at q1
    cases q1
    exact ⟨a, ho, rfl, q2, q3, q4, q5, q6⟩
def uRetN : DS := fun DD e => DD.rt (.sh .non) e
def uDrop (u : DX) : DS := fun DD e => u e fun _ e' => DD.nx e'
theorem ds_expr {a : Expr} {u : DX} {pos : Pos} (h : PDX X b a u) (hs : swapsWith a none pos.line X.env = pure false := by rfl) : PDS X b (.Expr a pos) (uDrop u) := by
  obtain ⟨t, p, l⟩ := h
  refine ⟨_, ps_expr p hs, ?_⟩
  intro L G0 H0 G H σ e DD D g ok hu
  exact l L G0 H0 G H σ e _ _ g hu fun v r e' G' H' g' hr q => ok.nx _ _ _ _ g' q
def uIf (t : DT) (u1 u2 : DS) : DS := fun DD e => t e fun c => if c = true then u1 DD e else u2 DD e
theorem ds_if {c : Expr} {s1 s2 : List Stmt} {t : DT} {u1 u2 : DS} {pos : Pos} (h : PDT X b c t) (h1 : PDSs X b s1 u1) (h2 : PDSs X b s2 u2) : PDS X b (.If c s1 s2 pos) (uIf t u1 u2) := by
  obtain ⟨tt, p, l⟩ := h
  obtain ⟨t1, p1, l1⟩ := h1
  obtain ⟨t2, p2, l2⟩ := h2
  refine ⟨_, ps_if p p1 p2, ?_⟩
  intro L G0 H0 G H σ e DD D g ok hu
  refine l L G0 H0 G H σ e _ _ g hu fun c G1 H1 s1 q => ?_
  cases c with
  | true => exact l1 L G0 H0 G1 H1 σ e DD D (g.step s1) ok q
  | false => exact l2 L G0 H0 G1 H1 σ e DD D (g.step s1) ok q
def uBrk : DS := fun DD e => DD.bk e
def uCnt : DS := fun DD e => DD.ct e
def uNever : DS := fun _ _ => False
theorem ds_never {st : Stmt} : PDS X b st uNever := ⟨_, ps_never, fun L G0 H0 G H σ e DD D g ok h => h.elim⟩
/-- xs.append(e), xs owned -/
def uApp (i : Nat) (u : DX) : DS := fun DD e => (∃ q xs, nth e i = .own q (.lst xs)) ∧ u e fun r e' => r.keep fun d => ∃ q xs, nth e' i = .own q (.lst xs) ∧ xs.length < 1000000 ∧ DD.nx (e'.set i (.own q (.lst (xs ++ [d]))))
theorem not_frz_lst {H : Hp} {a : Addr} {vs : List V} (h : H a = some (.lst vs)) : ∀ od u, H a ≠ some (.frz od u) := fun od u z => by rw [h] at z; cases z
theorem Good.ownL {L : Lk} {G0 H0 G H : Hp} {σ : L2.St} {e : List Sl} (g : Good K b L G0 H0 G H σ e) {i : Nat} {q : Option Addr} {xs : List D} (h : nth e i = .own q (.lst xs)) : e[i]? = some (.own q (.lst xs)) ∧ ∃ a vs, σ[i]? = some (some (.ref a)) ∧ H a = some (.lst vs) ∧ RepL K G xs vs := by
  have hi := nth_get h (by simp)
  obtain ⟨a, ho, h1, _, _, _, h5, ⟨vs, rfl, h7⟩, _⟩ := g.slot i _ hi
  exact ⟨hi, a, vs, h1, h5, h7⟩
theorem ds_append {i : Nat} {x : Str} {a : Expr} {u : DX} {px apos cpos pos : Pos} (h : PDX X b a u) (hN : X.N[i]? = some x := by rfl) (hv : Vis X.env.scope x := by first | exact Or.inl rfl | exact Or.inr (Or.inl rfl) | exact Or.inr (Or.inr rfl))
    (hd : (x == ("__debug__" : Str)) = false := by decide) (hcd : (x == ("__classdict__" : Str)) = false := by decide) (hw : swapsWith (.Call (.Attribute (.Name x px) "append" apos) [a] [] cpos) none pos.line X.env = pure false := by rfl)
    (hs : starEach (a :: []) X.env = (false, eval a X.env) :: starEach [] X.env := by rfl)
    (hbm : ∀ {te : TE}, PE X a te → PE X (.Call (.Attribute (.Name x px) "append" apos) [a] [] cpos) (tBM X.K "list" rAppend (tVar i) (tCons te tNil)) := by
      exact fun hp => pe_bm PySem.F.plainAttrs_list PySem.F.slot_list_append PySem.F.type_list_append mt_append (pe_var (by rfl) (by first | exact Or.inl rfl | exact Or.inr (Or.inl rfl) | exact Or.inr (Or.inr rfl))) (pa_cons hp pa_nil)) :
    PDS X b (.Expr (.Call (.Attribute (.Name x px) "append" apos) [a] [] cpos) pos) (uApp i u) := by
  obtain ⟨t, p, l⟩ := h
  refine ⟨_, ps_expr (hbm p) hw, ?_⟩
  intro L G0 H0 G H σ e DD D g ok hu
  obtain ⟨⟨_, xs, hxs⟩, hu⟩ := hu
  obtain ⟨hi, a, vs, q1, q2, q3⟩ := g.ownL hxs
  refine ⟨_, q1, Or.inl ⟨rfl, vs, SqL.of q2⟩, ?_⟩
  refine l L G0 H0 G H σ e _ _ g hu fun v r e' G' H' g' hr q => ?_
  obtain ⟨d, G2, g2, hd, _, ys, hys, hl, q⟩ := hr.freeze g' q
  obtain ⟨hi', a', ws, z1, z2, z3⟩ := g2.ownL hys
  rw [q1] at z1
  cases z1
  refine ⟨a, ws, v, rfl, rfl, z2, by rw [z3.length]; exact lt_line hl, ?_⟩
  exact ok.nx _ _ _ _ (g2.upd hi' q1 (not_frz_lst z2) (o' := .lst (ys ++ [d])) ⟨_, rfl, z3.append (RepL.one hd)⟩) q
/-- xs.pop(), xs owned -/
def uPop (i : Nat) : DX := fun e P => ∃ q xs y, nth e i = .own q (.lst (xs ++ [y])) ∧ P (.sh y) (e.set i (.own q (.lst xs)))
theorem dx_pop {i : Nat} {x : Str} {px apos cpos : Pos} (hN : X.N[i]? = some x := by rfl) (hv : Vis X.env.scope x := by first | exact Or.inl rfl | exact Or.inr (Or.inl rfl) | exact Or.inr (Or.inr rfl))
    (hbm : PE X (.Call (.Attribute (.Name x px) "pop" apos) [] [] cpos) (tBM0 X.K "list" rPop (tVar i)) := by
      exact pe_bm0 PySem.F.plainAttrs_list PySem.F.slot_list_pop PySem.F.type_list_pop mt_pop (pe_var (by rfl) (by first | exact Or.inl rfl | exact Or.inr (Or.inl rfl) | exact Or.inr (Or.inr rfl)))) :
    PDX X b (.Call (.Attribute (.Name x px) "pop" apos) [] [] cpos) (uPop i) := by
  refine ⟨_, hbm, ?_⟩
  intro L G0 H0 G H σ e P Q g hu k
  obtain ⟨_, xs, y, hxs, hp⟩ := hu
  obtain ⟨hi, a, vs, q1, q2, q3⟩ := g.ownL hxs
  have hl := q3.length
  rw [List.length_append, List.length_singleton] at hl
  obtain ⟨v, hv1, hv2⟩ := q3.get (i := xs.length) (x := y) (by simp)
  refine ⟨_, q1, Or.inl ⟨rfl, vs, SqL.of q2⟩, a, vs, v, rfl, rfl, q2, ?_, ?_⟩
  · rw [hl]; exact hv1
  · have e : vs.dropLast = vs.take xs.length := by rw [List.dropLast_eq_take, hl]; rfl
    have r : RepL X.K G xs vs.dropLast := by
      rw [e]
      have := q3.take xs.length
      rwa [List.take_left' rfl] at this
    exact k v (.sh y) _ G _ (g.upd hi q1 (not_frz_lst q2) (o' := .lst xs) ⟨_, rfl, r⟩) hv2 hp
/-- xs.pop(k), xs owned -/
def uPopAt (i : Nat) (u : DE) : DX := fun e P => (∃ q xs, nth e i = .own q (.lst xs)) ∧ u e fun r => ∃ (n : Nat) (q : Option Addr) (xs : List D) (y : D), r = .sh (.int n) ∧ nth e i = .own q (.lst xs) ∧ xs.length ≤ 1000000 ∧ xs[n]? = some y ∧ P (.sh y) (e.set i (.own q (.lst (xs.eraseIdx n))))
theorem dx_popAt {i : Nat} {x : Str} {a : Expr} {u : DE} {px apos cpos : Pos} (h : PD X b a u) (hN : X.N[i]? = some x := by rfl) (hv : Vis X.env.scope x := by first | exact Or.inl rfl | exact Or.inr (Or.inl rfl) | exact Or.inr (Or.inr rfl))
    (hbm : ∀ {te : TE}, PE X a te → PE X (.Call (.Attribute (.Name x px) "pop" apos) [a] [] cpos) (tBM X.K "list" rPopAt (tVar i) (tCons te tNil)) := by
      exact fun hp => pe_bm PySem.F.plainAttrs_list PySem.F.slot_list_pop PySem.F.type_list_pop mt_popAt (pe_var (by rfl) (by first | exact Or.inl rfl | exact Or.inr (Or.inl rfl) | exact Or.inr (Or.inr rfl))) (pa_cons hp pa_nil)) :
    PDX X b (.Call (.Attribute (.Name x px) "pop" apos) [a] [] cpos) (uPopAt i u) := by
  obtain ⟨t, p, l⟩ := h
  refine ⟨_, hbm p, ?_⟩
  intro L G0 H0 G H σ e P Q g hu k
  obtain ⟨⟨_, xs, hxs⟩, hu⟩ := hu
  obtain ⟨hi, a, vs, q1, q2, q3⟩ := g.ownL hxs
  refine ⟨_, q1, Or.inl ⟨rfl, vs, SqL.of q2⟩, ?_⟩
  refine l L G0 H0 G H σ e _ _ g hu fun v r G' H' s hr q => ?_
  obtain ⟨n, _, ys, y, rfl, hys, hz, hy, hp⟩ := q
  have g' := g.step s
  obtain ⟨hi', a', ws, z1, z2, z3⟩ := g'.ownL hys
  rw [q1] at z1
  cases z1
  cases hr
  have hn := get_lt hy
  obtain ⟨v, hv1, hv2⟩ := z3.get hy
  refine ⟨a, ws, (n : Int), n, v, rfl, rfl, z2, by omega, by omega, ?_, hv1, ?_⟩
  · rw [seqIndex_of (by omega) (by rw [z3.length]; omega)]; simp
  · exact k v (.sh y) _ G' _ (g'.upd hi' q1 (not_frz_lst z2) (o' := .lst (ys.eraseIdx n)) ⟨_, rfl, z3.eraseIdx n⟩) hv2 hp
/-- xs[i] = e, xs owned -/
def uSetIx (i : Nat) (ui : DE) (u : DX) : DS := fun DD e => u e fun r e' => r.keep fun d => (∃ q xs, nth e' i = .own q (.lst xs)) ∧ ui e' fun k => ∃ (n : Nat) (q : Option Addr) (xs : List D), k = .sh (.int n) ∧ nth e' i = .own q (.lst xs) ∧ n < xs.length ∧ DD.nx (e'.set i (.own q (.lst (xs.set n d))))
theorem ds_setIx {i : Nat} {x : Str} {k a : Expr} {ui : DE} {u : DX} {px p2 pos : Pos} (hk : PD X b k ui) (h : PDX X b a u) (hN : X.N[i]? = some x := by rfl) (hv : Vis X.env.scope x := by first | exact Or.inl rfl | exact Or.inr (Or.inl rfl) | exact Or.inr (Or.inr rfl))
    (hd : (x == ("__debug__" : Str)) = false := by decide) (hcd : (x == ("__classdict__" : Str)) = false := by decide)
    (hm : ∀ {te ti : TE}, PE X a te → PE X k ti → PS X (.Assign [.Subscript (.Name x px) k p2] a pos) (tAsg te (gSub (tVar i) ti rSetL)) := by exact fun h1 h2 => ps_asg h1 (pg_sub (pe_var (by rfl) (by first | exact Or.inl rfl | exact Or.inr (Or.inl rfl) | exact Or.inr (Or.inr rfl))) h2 set_list)) :
    PDS X b (.Assign [.Subscript (.Name x px) k p2] a pos) (uSetIx i ui u) := by
  obtain ⟨t, p, l⟩ := h
  obtain ⟨ti, pi, li⟩ := hk
  refine ⟨_, hm p pi, ?_⟩
  intro L G0 H0 G H σ e DD D g ok hu
  refine l L G0 H0 G H σ e _ _ g hu fun v r e' G' H' g' hr q => ?_
  obtain ⟨d, G2, g2, hd, q⟩ := hr.freeze g' q
  obtain ⟨⟨_, ys, hys⟩, q⟩ := q
  obtain ⟨_, a, vs, q1, _⟩ := g2.ownL hys
  refine ⟨_, q1, ?_⟩
  refine li L G0 H0 G2 H' σ e' _ _ g2 q fun v3 r3 G3 H3 s3 hr3 q3 => ?_
  obtain ⟨n, _, xs, rfl, hx, hn, q3⟩ := q3
  have g3 := g2.step s3
  obtain ⟨hi, a', ws, z1, z2, z3⟩ := g3.ownL hx
  rw [q1] at z1
  cases z1
  cases hr3
  refine ⟨a, ws, (n : Int), n, rfl, rfl, z2, ?_, ?_⟩
  · rw [z3.length]
    unfold ixN
    rw [if_pos (by omega), if_pos (by omega)]
    simp
  · exact ok.nx _ _ _ _ (g3.upd hi q1 (not_frz_lst z2) (o' := .lst (xs.set n d)) ⟨_, rfl, RepL.set (hd.mono s3.g) n z3⟩) q3
/-- a, b = e1, e2: two local names -/
def R.into (own : Bool) (P : Sl → Prop) : R → Prop
  | .sh d => own = false ∧ P (.sh d)
  | .ow o => if own = true then P (.own none o) else P (.sh o.d)
  | .al _ _ => False
  | .tr _ => False
end
end DL
namespace DL
open PySem L2
section
variable {X : Cx} {b : Bg} {K : PySem.W.Frag}
/-! ### what is walked -/
abbrev DI := List Sl → (List D → Prop) → Prop
def JOk (K : PySem.W.Frag) (b : Bg) (L : Lk) (G1 : Hp) (J : It) (xs : List D) : Prop := ∀ G H, Sub G1 G → Ex G H → (∀ a od u, (a, od, u) ∈ L → H a = some (.frz od u)) → ∀ i : Nat,
  (∀ x, xs[i]? = some x → J.go i H ∧ ∀ v H', J.yld i H v H' → ∃ G', Stp b [] G H G' H' ∧ Rep K G' x v) ∧ (xs.length ≤ i → J.stop i H)
def LI (K : PySem.W.Frag) (b : Bg) (wi : TI) (ui : DI) : Prop := ∀ (L : Lk) (G0 H0 G H : Hp) (σ : L2.St) (e : List Sl) (P : List D → Prop) (Q : It → Hp → Prop), Good K b L G0 H0 G H σ e → ui e P →
  (∀ J xs G' H', Stp b [] G H G' H' → JOk K b L G' J xs → P xs → Q J H') → wi σ H Q
structure PDI (X : Cx) (b : Bg) (tg it : Expr) (ui : DI) : Prop where
  ex : ∃ wi, PI X tg it wi ∧ LI X.K b wi ui
theorem ex_lst {G H : Hp} (e : Ex G H) {a : Addr} {vs : List V} (h : G a = some (.lst vs)) : H a = some (.lst vs) := by
  rcases Ex.old e _ _ h with z | ⟨_, _, z, _⟩
  · exact z
  · cases z
theorem ex_tup {G H : Hp} (e : Ex G H) {a : Addr} {vs : List V} (h : G a = some (.tup vs) ∨ WT K a vs) : SqT K H a vs := by
  rcases h with h | h
  · rcases Ex.old e _ _ h with z | ⟨_, _, z, _⟩
    · exact SqT.of z
    · cases z
  · exact .inr h
theorem vs_none {G : Hp} {xs : List D} {vs : List V} (h : RepL K G xs vs) {i : Nat} (hi : xs.length ≤ i) : vs.length ≤ i := by rw [h.length]; exact hi
theorem jok_list {L : Lk} {G1 : Hp} {a : Addr} {vs : List V} {xs : List D} (h : G1 a = some (.lst vs)) (hr : RepL K G1 xs vs) : JOk K b L G1 (Itl K a) xs := fun G H sub ex _ i => by
  have q : SqL K H a vs := SqL.of (ex_lst ex (sub _ _ h))
  refine ⟨fun x hx => ?_, fun hi => ⟨vs, q, vs_none hr hi⟩⟩
  obtain ⟨v, hv, hd⟩ := (hr.mono sub).get hx
  refine ⟨⟨vs, v, q, hv⟩, fun w H' hy => ?_⟩
  obtain ⟨rfl, hy⟩ := hy
  have z := hy vs q
  rw [hv] at z
  cases z
  exact ⟨G, Stp.refl ex, hd⟩
theorem jok_tup {L : Lk} {G1 : Hp} {a : Addr} {vs : List V} {xs : List D} (h : G1 a = some (.tup vs) ∨ WT K a vs) (hr : RepL K G1 xs vs) : JOk K b L G1 (Itt K a) xs := fun G H sub ex _ i => by
  have q : SqT K H a vs := ex_tup ex (h.imp (sub _ _) id)
  refine ⟨fun x hx => ?_, fun hi => ⟨vs, q, vs_none hr hi⟩⟩
  obtain ⟨v, hv, hd⟩ := (hr.mono sub).get hx
  refine ⟨⟨vs, v, q, hv⟩, fun w H' hy => ?_⟩
  obtain ⟨rfl, hy⟩ := hy
  have z := hy vs q
  rw [hv] at z
  cases z
  exact ⟨G, Stp.refl ex, hd⟩
def signs (s : Str) : List D := s.cps.toList.map fun c => .str (sign c)
theorem jok_str {L : Lk} {G1 : Hp} {s : Str} : JOk K b L G1 (Its s) (signs s) := fun G H sub ex _ i => by
  refine ⟨fun x hx => ?_, fun hi => ?_⟩
  · have hl := get_lt hx
    unfold signs at hx hl
    rw [List.length_map] at hl
    refine ⟨(by simpa using hl : i < s.cps.size), fun w H' hy => ?_⟩
    obtain ⟨rfl, c, hc, rfl⟩ := hy
    rw [List.getElem?_map] at hx
    have e : s.cps.toList[i]? = some c := by simpa using hc
    rw [e] at hx
    cases hx
    exact ⟨G, Stp.refl ex, rfl⟩
  · unfold signs at hi
    rw [List.length_map] at hi
    show s.cps.size ≤ i
    simpa using hi

def asL (P : List D → Prop) : D → Prop
  | .lst xs => P xs
  | _ => False
def asT (P : List D → Prop) : D → Prop
  | .tup xs => P xs
  | _ => False
def asS (P : List D → Prop) : D → Prop
  | .str s => P (signs s)
  | _ => False
def uItL (u : DE) : DI := fun e P => u e (R.keep (asL P))
def uItT (u : DE) : DI := fun e P => u e (R.keep (asT P))
def uItS (u : DE) : DI := fun e P => u e (R.keep (asS P))
theorem asL_of {P : List D → Prop} {d : D} (h : asL P d) : ∃ xs, d = .lst xs ∧ P xs := by cases d <;> first | exact ⟨_, rfl, h⟩ | exact h.elim
/-- the numbers lo, lo + 1, .. -/
def nums (lo : Int) (n : Nat) : List D := (List.range n).map fun (i : Nat) => .int (lo + (i : Int))
theorem nums_len (lo : Int) (n : Nat) : (nums lo n).length = n := by unfold nums; simp
theorem nums_get {lo : Int} {n i : Nat} {x : D} (h : (nums lo n)[i]? = some x) : i < n ∧ x = .int (lo + (i : Int)) := by
  have hl := get_lt h
  rw [nums_len] at hl
  unfold nums at h
  rw [List.getElem?_map, List.getElem?_range hl] at h
  cases h
  exact ⟨hl, rfl⟩
theorem jok_rng {L : Lk} {G1 : Hp} {lo : Int} {n : Nat} : JOk K b L G1 (Itr lo n) (nums lo n) := fun G H sub ex _ i => by
  refine ⟨fun x hx => ?_, fun hi => ?_⟩
  · obtain ⟨h1, rfl⟩ := nums_get hx
    refine ⟨h1, fun w H' hy => ?_⟩
    obtain ⟨rfl, rfl⟩ := hy
    exact ⟨G, Stp.refl ex, rfl⟩
  · rw [nums_len] at hi; exact hi
def uR1 (ua : DA) : DI := fun e P => ua e fun ds => ∃ n : Int, ds = [.int n] ∧ -1000000 ≤ n ∧ n ≤ 1000000 ∧ P (nums 0 n.toNat)
def uR2 (ua : DA) : DI := fun e P => ua e fun ds => ∃ lo n : Int, ds = [.int lo, .int n] ∧ (-1000000 ≤ lo ∧ lo ≤ 1000000 ∧ -1000000 ≤ n ∧ n ≤ 1000000) ∧ P (nums lo (n - lo).toNat)
theorem di_range1 {tg a : Expr} {ua : DA} {p pos : Pos} (hm : X.mg "range" = none) (ha : PDA X b [a] ua) (hg : Gl X "range" := by rfl) (hs : starEach [a] X.env = [(false, eval a X.env)] := by rfl) : PDI X b tg (.Call (.Name "range" p) [a] [] pos) (uR1 ua) := by
  obtain ⟨t, p, l⟩ := ha
  refine ⟨_, pi_range1 hg hm p hs, ?_⟩
  intro L G0 H0 G H σ e P Q g hu k
  refine l L G0 H0 G H σ e _ _ g hu fun vs ds G1 H1 s1 hr q => ?_
  obtain ⟨n, rfl, h1, h2, q⟩ := q
  obtain ⟨v, r, rfl, hv, hr⟩ := hr
  cases hv
  cases hr
  exact ⟨n, rfl, by omega, by omega, k _ _ G1 H1 s1 jok_rng q⟩
theorem di_range2 {tg a c : Expr} {ua : DA} {p pos : Pos} (hm : X.mg "range" = none) (ha : PDA X b [a, c] ua) (hg : Gl X "range" := by rfl) (hs : starEach [a, c] X.env = [(false, eval a X.env), (false, eval c X.env)] := by rfl) (hs2 : starEach [c] X.env = [(false, eval c X.env)] := by rfl) :
    PDI X b tg (.Call (.Name "range" p) [a, c] [] pos) (uR2 ua) := by
  obtain ⟨t, p, l⟩ := ha
  refine ⟨_, pi_range2 hg hm p hs hs2, ?_⟩
  intro L G0 H0 G H σ e P Q g hu k
  refine l L G0 H0 G H σ e _ _ g hu fun vs ds G1 H1 s1 hr q => ?_
  obtain ⟨lo, n, rfl, h, q⟩ := q
  obtain ⟨v, r, rfl, hv, hr⟩ := hr
  cases hv
  obtain ⟨v, r, rfl, hv, hr⟩ := hr
  cases hv
  cases hr
  exact ⟨lo, n, rfl, ⟨by omega, by omega, by omega, by omega⟩, k _ _ G1 H1 s1 jok_rng q⟩
/-- enumerate(xs), zip(xs, ys) -/
def enums (xs : List D) : List D := (List.range xs.length).zipWith (fun (i : Nat) x => .tup [.int (i : Int), x]) xs
theorem enums_get {xs : List D} {i : Nat} {y : D} (h : (enums xs)[i]? = some y) : ∃ x, xs[i]? = some x ∧ y = .tup [.int (i : Int), x] := by
  unfold enums at h
  rw [List.getElem?_zipWith] at h
  cases e : xs[i]? with
  | none => rw [e] at h; cases q : (List.range xs.length)[i]? <;> rw [q] at h <;> cases h
  | some x =>
    rw [e, List.getElem?_range (get_lt e)] at h
    cases h
    exact ⟨x, rfl, rfl⟩
theorem enums_len (xs : List D) : (enums xs).length = xs.length := by unfold enums; simp
theorem jok_enum {L : Lk} {G1 : Hp} {a : Addr} {vs : List V} {xs : List D} (h : G1 a = some (.lst vs)) (hr : RepL K G1 xs vs) : JOk K b L G1 (Ite K a) (enums xs) := fun G H sub ex _ i => by
  have q : SqL K H a vs := SqL.of (ex_lst ex (sub _ _ h))
  refine ⟨fun y hy => ?_, fun hi => ⟨vs, q, vs_none hr (by rw [enums_len] at hi; exact hi)⟩⟩
  obtain ⟨x, hx, rfl⟩ := enums_get hy
  obtain ⟨v, hv, hd⟩ := (hr.mono sub).get hx
  refine ⟨⟨vs, v, q, hv⟩, fun w H' hy => ?_⟩
  obtain ⟨T, z, rfl, hT, rfl, hz⟩ := hy
  have e := hz vs q
  rw [hv] at e
  cases e
  have s := sub_upd (o := .tup [.int (i : Int), v]) (ex.none hT)
  exact ⟨_, Stp.laid ex hT, T, _, rfl, .inl upd_same, _, _, rfl, rfl, _, _, rfl, hd.mono s, rfl⟩
def uEnum (u : DE) : DI := fun e P => u e (R.keep (asL fun xs => P (enums xs)))
theorem di_enum {a : Expr} {u : DE} {p pos tpos : Pos} {elts : List Expr} {kk : Nat} (hm : X.mg "enumerate" = none) (h : PD X b a u) (hg : Gl X "enumerate" := by rfl) (hs : starEach [a] X.env = [(false, eval a X.env)] := by rfl) : PDI X b (.Tuple elts kk tpos) (.Call (.Name "enumerate" p) [a] [] pos) (uEnum u) := by
  obtain ⟨t, p, l⟩ := h
  refine ⟨_, pi_enum hg hm (pa_cons p pa_nil hs) hs, ?_⟩
  intro L G0 H0 G H σ e P Q g hu k
  refine l L G0 H0 G H σ e _ _ g hu fun v r G1 H1 s1 hr q => ?_
  obtain ⟨d, G2, s2, hd, q⟩ := hr.freeze s1 q
  obtain ⟨xs, rfl, q⟩ := asL_of q
  obtain ⟨a, vs, rfl, ha, hr⟩ := hd
  exact ⟨a, vs, rfl, SqL.of (ex_lst s2.ex ha), k _ _ G2 H1 s2 (jok_enum ha hr) q⟩
def zips (xs ys : List D) : List D := xs.zipWith (fun x y => .tup [x, y]) ys
theorem zips_get {xs ys : List D} {i : Nat} {z : D} (h : (zips xs ys)[i]? = some z) : ∃ x y, xs[i]? = some x ∧ ys[i]? = some y ∧ z = .tup [x, y] := by
  unfold zips at h
  rw [List.getElem?_zipWith] at h
  cases e : xs[i]? with
  | none => rw [e] at h; cases h
  | some x =>
    cases e' : ys[i]? with
    | none => rw [e, e'] at h; cases h
    | some y => rw [e, e'] at h; cases h; exact ⟨x, y, rfl, rfl, rfl⟩
theorem jok_zip {L : Lk} {G1 : Hp} {a c : Addr} {vs ws : List V} {xs ys : List D} (h : G1 a = some (.lst vs)) (hr : RepL K G1 xs vs) (h' : G1 c = some (.lst ws)) (hr' : RepL K G1 ys ws) : JOk K b L G1 (Itz K a c) (zips xs ys) := fun G H sub ex _ i => by
  have q : SqL K H a vs := SqL.of (ex_lst ex (sub _ _ h))
  have q' : SqL K H c ws := SqL.of (ex_lst ex (sub _ _ h'))
  refine ⟨fun y hy => ?_, fun hi => ⟨vs, ws, q, q', ?_⟩⟩
  · obtain ⟨x, y, hx, hx', rfl⟩ := zips_get hy
    obtain ⟨v, hv, hd⟩ := (hr.mono sub).get hx
    obtain ⟨w, hw, hd'⟩ := (hr'.mono sub).get hx'
    refine ⟨⟨vs, ws, v, w, q, q', hv, hw⟩, fun u H' hy => ?_⟩
    obtain ⟨T, z, z', rfl, hT, rfl, hz, hz'⟩ := hy
    have e := hz vs q
    have e' := hz' ws q'
    rw [hv] at e
    rw [hw] at e'
    cases e
    cases e'
    have s := sub_upd (o := .tup [v, w]) (ex.none hT)
    exact ⟨_, Stp.laid ex hT, T, _, rfl, .inl upd_same, _, _, rfl, hd.mono s, _, _, rfl, hd'.mono s, rfl⟩
  · rw [hr.length, hr'.length]
    unfold zips at hi
    rw [List.length_zipWith] at hi
    omega
/-! ### targets -/
abbrev DG := D → List Sl → (List Sl → Prop) → Prop
abbrev DGs := List D → List Sl → (List Sl → Prop) → Prop
def LG (K : PySem.W.Frag) (b : Bg) (js : List Nat) (t : TG) (ug : DG) : Prop := ∀ (L : Lk) (G0 H0 G H : Hp) (σ : L2.St) (e : List Sl) (d : D) (v : V) (P : List Sl → Prop) (Q : L2.St → Hp → Prop), Good K b L G0 H0 G H σ e → Rep K G d v → ug d e P →
  (∀ σ' e', Good K b L G0 H0 G H σ' e' → (∀ vs : List Nat, (∀ j ∈ js, j ∈ vs) → wipe σ' vs = wipe σ vs) → P e' → Q σ' H) → t v σ H Q
def LGs (K : PySem.W.Frag) (b : Bg) (js : List Nat) (t : TGs) (ug : DGs) : Prop := ∀ (L : Lk) (G0 H0 G H : Hp) (σ : L2.St) (e : List Sl) (ds : List D) (vs : List V) (P : List Sl → Prop) (Q : L2.St → Hp → Prop), Good K b L G0 H0 G H σ e → RepL K G ds vs → ug ds e P →
  (∀ σ' e', Good K b L G0 H0 G H σ' e' → (∀ vs : List Nat, (∀ j ∈ js, j ∈ vs) → wipe σ' vs = wipe σ vs) → P e' → Q σ' H) → t vs σ H Q
structure PDG (X : Cx) (b : Bg) (tg : Expr) (js : List Nat) (ug : DG) : Prop where
  ex : ∃ t, PG X tg t ∧ LG X.K b js t ug
structure PDGs (X : Cx) (b : Bg) (tgs : List Expr) (js : List Nat) (ug : DGs) : Prop where
  ex : ∃ t, PGs X tgs t ∧ LGs X.K b js t ug
theorem wipe_set {σ : L2.St} {j : Nat} {x : Option V} : ∀ {vs : List Nat}, j ∈ vs → wipe (σ.set j x) vs = wipe σ vs
  | [], h => by cases h
  | v :: vs, h => by
    unfold wipe
    by_cases c : j ∈ vs
    · rw [wipe_set c]
    · have e : j = v := by
        rcases List.mem_cons.mp h with z | z
        · exact z
        · exact absurd z c
      subst e
      have q : ∀ {ws : List Nat}, j ∉ ws → wipe (σ.set j x) ws = (wipe σ ws).set j x := by
        intro ws
        induction ws with
        | nil => intro _; rfl
        | cons w ws ih =>
          intro h
          unfold wipe
          rw [ih (fun z => h (List.mem_cons_of_mem _ z)), List.set_comm _ _ (fun z => h (by rw [z]; exact List.mem_cons_self))]
      rw [q c, List.set_set]
def gNm (i : Nat) : DG := fun d e P => P (e.set i (.sh d))
theorem dg_name {i : Nat} {x : Str} {pos : Pos} (hN : X.N.Nodup) (hi : X.N[i]? = some x := by rfl) (hx : Loc X.env.scope x := by first | exact Or.inl rfl | exact Or.inr rfl) (hf : X.fn x = true ∨ X.env.scope.names.lookup x = some .local := by first | exact .inl rfl | exact .inr rfl | assumption) :
    PDG X b (.Name x pos) [i] (gNm i) := by
  refine ⟨_, pg_name hN hi hx hf, ?_⟩
  intro L G0 H0 G H σ e d v P Q g hd hu k
  exact k _ _ (g.setS i hd) (fun vs h => wipe_set (h i List.mem_cons_self)) hu
def gsNil : DGs := fun ds e P => ds = [] ∧ P e
def gsCons (g : DG) (gs : DGs) : DGs := fun ds e P => match ds with
  | d :: ds => g d e fun e' => gs ds e' P
  | [] => False
theorem dgs_nil : PDGs X b [] [] gsNil := by
  refine ⟨_, pgs_nil, ?_⟩
  intro L G0 H0 G H σ e ds vs P Q g hd hu k
  obtain ⟨rfl, hu⟩ := hu
  cases hd
  exact ⟨rfl, k σ e g (fun _ _ => rfl) hu⟩
theorem dgs_cons {a : Expr} {es : List Expr} {js ks : List Nat} {ug : DG} {ugs : DGs} (h1 : PDG X b a js ug) (h2 : PDGs X b es ks ugs) (hs : (assignEach (a :: es) X.env).map (·.2) = assign a X.env :: (assignEach es X.env).map (·.2) := by rfl) : PDGs X b (a :: es) (js ++ ks) (gsCons ug ugs) := by
  obtain ⟨t1, p1, l1⟩ := h1
  obtain ⟨t2, p2, l2⟩ := h2
  refine ⟨_, pgs_cons p1 p2 hs, ?_⟩
  intro L G0 H0 G H σ e ds vs P Q g hd hu k
  cases ds with
  | nil => exact hu.elim
  | cons d ds =>
    obtain ⟨v, r, rfl, hv, hr⟩ := hd
    refine ⟨v, r, rfl, ?_⟩
    refine l1 L G0 H0 G H σ e d v _ _ g hv hu fun σ1 e1 g1 w1 q1 => ?_
    refine l2 L G0 H0 G H σ1 e1 ds r _ _ g1 hr q1 fun σ2 e2 g2 w2 q2 => ?_
    exact k σ2 e2 g2 (fun vs h => (w2 vs fun j hj => h j (List.mem_append_right _ hj)).trans (w1 vs fun j hj => h j (List.mem_append_left _ hj))) q2
def gTp (gs : DGs) : DG := fun d e P => match d with
  | .tup ds => gs ds e P
  | _ => False
theorem dg_tup {es : List Expr} {k n : Nat} {js : List Nat} {ugs : DGs} {pos : Pos} (h : PDGs X b es js ugs) (hl : ∀ ds e P, ugs ds e P → ds.length = n) (hc : X.calm = true := by rfl) (hn : (assignEach es X.env).length = n := by rfl) (hst : (assignEach es X.env).findIdx? (·.1) = none := by rfl) :
    PDG X b (.Tuple es k pos) js (gTp ugs) := by
  obtain ⟨t, p, l⟩ := h
  refine ⟨_, pg_tup hc p hn hst, ?_⟩
  intro L G0 H0 G H σ e d v P Q g hd hu kk
  unfold gTp at hu
  split at hu
  · rename_i ds
    obtain ⟨a, vs, rfl, ha, hr⟩ := hd
    exact ⟨a, vs, rfl, ex_tup g.ex ha, by rw [hr.length]; exact hl _ _ _ hu, l L G0 H0 G H σ e ds vs P Q g hr hu kk⟩
  · exact hu.elim
/-- a target reaches some slots | a row of targets wants so many -/
def GX (g : DG) : Prop := ∀ d e P, g d e P → ∃ e', P e'
def GL (g : DGs) (n : Nat) : Prop := ∀ ds e P, g ds e P → ds.length = n
theorem gx_name {i : Nat} : GX (gNm i) := fun d e P h => ⟨_, h⟩
theorem gl_nil : GL gsNil 0 := fun ds e P h => by rw [h.1]; rfl
theorem gl_cons {g : DG} {gs : DGs} {n : Nat} (h1 : GX g) (h2 : GL gs n) : GL (gsCons g gs) (n + 1) := fun ds e P h => by
  cases ds with
  | nil => exact h.elim
  | cons d ds =>
    obtain ⟨e', h'⟩ := h1 d e _ h
    rw [List.length_cons, h2 ds e' P h']
/-- a, b = e -/
def uAsg (ug : DG) (u : DX) : DS := fun DD e => u e fun r e' => r.keep fun d => ug d e' DD.nx
theorem ds_asg {tg a : Expr} {u : DX} {js : List Nat} {ug : DG} {pos : Pos} (h : PDX X b a u) (hg : PDG X b tg js ug) (hs : swapsWithSole [tg] a pos.line X.env = pure false := by rfl) (hw : swappedStores [tg] a X.env = pure none := by rfl)
    (h1 : (assignEach [tg] X.env).map (·.2) = [assign tg X.env] := by rfl) : PDS X b (.Assign [tg] a pos) (uAsg ug u) := by
  obtain ⟨t, p, l⟩ := h
  obtain ⟨t2, p2, l2⟩ := hg
  refine ⟨_, ps_asg p p2 hs hw h1, ?_⟩
  intro L G0 H0 G H σ e DD D g ok hu
  refine l L G0 H0 G H σ e _ _ g hu fun v r e' G' H' g' hr q => ?_
  obtain ⟨d, G2, g2, hd, q⟩ := hr.freeze g' q
  exact l2 L G0 H0 G2 H' σ e' d v _ _ g2 hd q fun σ3 e3 g3 _ q3 => ok.nx _ _ _ _ g3 q3
/-! ### for -/
theorem Stp.base {L : Lk} {G0 H0 G1 H1 G H : Hp} (s : Stp b L G0 H0 G1 H1) (t : Stp b L G1 H0 G H) : Stp b L G0 H0 G H where
  g := s.g.trans t.g
  fr := fun a o hb nm h => t.fr a o hb (s.nm hb nm (by rw [h]; exact Option.some_ne_none _)) h
  new := fun a hb h hg => t.new a hb h (s.new a hb h hg)
  ex := t.ex
  bag := fun a ha h => t.bag a ha (by
    obtain ⟨h1, _⟩ := s.bag a ha h
    obtain ⟨_, q, ns, i, n, z, h2, h3, h4⟩ := h
    exact ⟨h1, q, ns, i, n, z, h2, s.g _ _ h3, h4⟩)
theorem XL.rebase {L : Lk} {G0 H0 G H : Hp} (s : Stp b L G0 H0 G H) (e : Ex G H) (x : XL K b L G0 H0) : XL K b L G H0 := ⟨x.1, fun hL y cls d σ G' H' st => by
  subst hL
  exact x.2 rfl y cls d σ G' H' (s.base st)⟩
theorem Good.rebase {L : Lk} {G0 H0 G H : Hp} {σ : L2.St} {e : List Sl} (g : Good K b L G0 H0 G H σ e) : Good K b L G H0 G H σ e :=
  ⟨⟨⟨Sub.refl G, fun a o hb nm h => g.stp.fr a o hb (nm.back g.stp.g) h, fun _ _ _ h => h, g.ex, fun a ha _ => g.bag a ha⟩, g.slot, g.inj, g.bag, g.lk, g.len, g.injT⟩, g.xl.rebase g.stp g.ex⟩
theorem Good.unbase {L : Lk} {G0 H0 G1 H1 G H : Hp} {σ : L2.St} {e : List Sl} (s : Stp b L G0 H0 G1 H1) (x : XL K b L G0 H0) (g : Good K b L G1 H0 G H σ e) : Good K b L G0 H0 G H σ e :=
  ⟨⟨s.base g.stp, g.slot, g.inj, g.bag, g.lk, g.len, g.injT⟩, x⟩
theorem EndsOk.rebase {L : Lk} {G0 H0 G1 H1 : Hp} {DD : DEnds} {D : Ends} (x : XL K b L G0 H0) (s : Stp b L G0 H0 G1 H1) (ok : EndsOk K b L G0 H0 DD D) : EndsOk K b L G1 H0 DD D :=
  ⟨fun G H σ e g h => ok.nx G H σ e (g.unbase s x) h, fun G H σ e v r g hr h => ok.rt G H σ e v r (g.unbase s x) hr h, fun G H σ e g h => ok.bk G H σ e (g.unbase s x) h, fun G H σ e g h => ok.ct G H σ e (g.unbase s x) h⟩
def uFor (ui : DI) (ug : DG) (ub : DS) : DS := fun DD e => ui e fun xs => ∃ W : Nat → List Sl → Prop, W 0 e ∧ (∀ i x e', xs[i]? = some x → W i e' → ug x e' fun e2 => ub { DD with nx := W (i + 1), ct := W (i + 1), bk := DD.nx } e2) ∧ ∀ e', W xs.length e' → DD.nx e'
theorem ls_for {wi : TI} {ui : DI} {g : TG} {js : List Nat} {ug : DG} {tb : TS} {ub : DS} (hi : LI K b wi ui) (hg : LG K b js g ug) (hb : LS K b tb ub) : LS K b (tFor wi g tb) (uFor ui ug ub) := by
  intro L G0 H0 G H σ e DD D gd ok hu
  refine hi L G0 H0 G H σ e _ _ gd hu fun J xs G1 H1 s1 hJ q => ?_
  obtain ⟨W, w0, hs, hd⟩ := q
  have g1 := gd.step s1
  have ok1 := ok.rebase g1.xl g1.stp
  refine ⟨fun i m σ H => m = xs.length - i ∧ i ≤ xs.length ∧ ∃ G e', Good K b L G1 H0 G H σ e' ∧ W i e', ⟨xs.length, by simp, Nat.zero_le _, G1, e, g1.rebase, w0⟩, ?_⟩
  rintro i m σ H ⟨rfl, hi, G, e', gg, w⟩
  obtain ⟨j1, j2⟩ := hJ G H gg.stp.g gg.ex gg.lk i
  by_cases c : i < xs.length
  · obtain ⟨go, y⟩ := j1 xs[i] (by simp [c])
    refine .inr ⟨go, fun σ' H' => ∃ G e', Good K b L G1 H0 G H' σ' e' ∧ W (i + 1) e', fun σ' H' ⟨G, e', g', w'⟩ => ⟨xs.length - (i + 1), by omega, rfl, by omega, G, e', g', w'⟩, fun v H' hy => ?_⟩
    obtain ⟨G', s', hx⟩ := y v H' hy
    have g' := gg.step s'
    refine hg L G1 H0 G' H' σ e' _ v _ _ g' hx (hs i xs[i] e' (by simp [c]) w) fun σ2 e2 g2 _ q2 => ?_
    exact hb L G1 H0 G' H' σ2 e2 { DD with nx := W (i + 1), ct := W (i + 1), bk := DD.nx } { D with nx := fun σ' H' => ∃ G e', Good K b L G1 H0 G H' σ' e' ∧ W (i + 1) e', ct := fun σ' H' => ∃ G e', Good K b L G1 H0 G H' σ' e' ∧ W (i + 1) e', bk := D.nx } g2
      ⟨fun G H σ e g h => ⟨G, e, g, h⟩, ok1.rt, ok1.nx, fun G H σ e g h => ⟨G, e, g, h⟩⟩ q2
  · have e1 : i = xs.length := by omega
    subst e1
    exact .inl ⟨j2 (Nat.le_refl _), ok1.nx G H σ e' gg (hd e' w)⟩
theorem ds_for {tg iter : Expr} {body : List Stmt} {ui : DI} {js : List Nat} {ug : DG} {ub : DS} {pos : Pos} (hi : PDI X b tg iter ui) (hg : PDG X b tg js ug) (hb : PDSs X b body ub) (hp : PassesOwn (model X.prog X.w) X.A X.env X.xe := by exact PassesOwn.never) (hc : X.calm = true := by rfl)
    (hs : ∀ x, foldedSetIterable iter X.env x = pure x := by intro _; rfl) : PDS X b (.For tg iter body [] pos) (uFor ui ug ub) := by
  obtain ⟨wi, p1, l1⟩ := hi
  obtain ⟨tg, p2, l2⟩ := hg
  obtain ⟨tb, p3, l3⟩ := hb
  exact ⟨_, ps_for hp hc p1 p2 p3 hs, ls_for l1 l2 l3⟩
/-! ### while -/
def uWhile (t : DT) (ub : DS) : DS := fun DD e => ∃ W : Nat → List Sl → Prop, (∃ m, W m e) ∧ ∀ m e', W m e' → t e' fun c => if c = true then ub { DD with nx := fun e2 => ∃ m', m' < m ∧ W m' e2, ct := fun e2 => ∃ m', m' < m ∧ W m' e2, bk := DD.nx } e' else DD.nx e'
theorem ls_while {t : TT} {u : DT} {tb : TS} {ub : DS} (h : LT K b t u) (hb : LS K b tb ub) : LS K b (tWhile t tb) (uWhile u ub) := by
  intro L G0 H0 G H σ e DD D gd ok hu
  obtain ⟨W, ⟨m0, w0⟩, hs⟩ := hu
  refine ⟨fun m σ H => ∃ G e', Good K b L G0 H0 G H σ e' ∧ W m e', ⟨m0, G, e, gd, w0⟩, ?_⟩
  rintro m σ H ⟨G, e', g, w⟩
  refine h L G0 H0 G H σ e' _ _ g (hs m e' w) fun c G1 H1 s1 q => ?_
  have g1 := g.step s1
  cases c with
  | false => exact ok.nx G1 H1 σ e' g1 q
  | true =>
    refine ⟨fun σ2 H2 => ∃ m', m' < m ∧ ∃ G e', Good K b L G0 H0 G H2 σ2 e' ∧ W m' e', fun σ2 H2 ⟨m', hm, q⟩ => ⟨m', hm, q⟩, ?_⟩
    exact hb L G0 H0 G1 H1 σ e' { DD with nx := fun e2 => ∃ m', m' < m ∧ W m' e2, ct := fun e2 => ∃ m', m' < m ∧ W m' e2, bk := DD.nx } _ g1 ⟨fun G H σ e g ⟨m', hm, q⟩ => ⟨m', hm, G, e, g, q⟩, ok.rt, ok.nx, fun G H σ e g ⟨m', hm, q⟩ => ⟨m', hm, G, e, g, q⟩⟩ q
theorem ds_while {c : Expr} {body : List Stmt} {u : DT} {ub : DS} {pos : Pos} (h : PDT X b c u) (hb : PDSs X b body ub) (hp : PassesOwn (model X.prog X.w) X.A X.env X.xe := by exact PassesOwn.never) : PDS X b (.While c body [] pos) (uWhile u ub) := by
  obtain ⟨t, p, l⟩ := h
  obtain ⟨tb, p3, l3⟩ := hb
  exact ⟨_, ps_while hp p p3, ls_while l l3⟩
end
end DL
namespace DL
open PySem L2 PyProof.Rows
section
variable {X : Cx} {b : Bg} {K : PySem.W.Frag}
/-! ### comprehensions -/
def wipeE (e : List Sl) : List Nat → List Sl
  | [] => e
  | v :: vs => (wipeE e vs).set v .un
theorem Good.setN {L : Lk} {G0 H0 G H : Hp} {σ : L2.St} {e : List Sl} (g : Good K b L G0 H0 G H σ e) (i : Nat) : Good K b L G0 H0 G H (σ.set i none) (e.set i .un) where
  stp := g.stp
  slot := fun j x hx => by
    rw [get_set] at hx ⊢
    by_cases c : i = j
    · rw [if_pos c] at hx
      split at hx
      · cases hx; trivial
      · cases hx
    · rw [if_neg c] at hx ⊢; exact g.slot j x hx
  inj := fun j k t1 t2 o1 o2 c q1 q2 q3 q4 => by
    have tr : ∀ {j : Nat} {t1 : Option Addr} {o1 : OD}, (e.set i .un)[j]? = some (.own t1 o1) → e[j]? = some (.own t1 o1) ∧ i ≠ j := fun {j t1 o1} q => by
      rw [get_set] at q
      by_cases c : i = j
      · rw [if_pos c] at q; split at q <;> cases q
      · rw [if_neg c] at q; exact ⟨q, c⟩
    obtain ⟨p1, n1⟩ := tr q1
    obtain ⟨p2, n2⟩ := tr q2
    rw [get_set, if_neg n1] at q3
    rw [get_set, if_neg n2] at q4
    exact g.inj j k _ _ _ _ c p1 p2 q3 q4
  bag := g.bag
  lk := g.lk
  len := by rw [List.length_set, List.length_set]; exact g.len
  injT := g.toGood0.injSet i (fun _ _ h => h) set_off
  xl := g.xl
theorem Good.wipe {L : Lk} {G0 H0 G H : Hp} {σ : L2.St} {e : List Sl} (g : Good K b L G0 H0 G H σ e) : ∀ vs, Good K b L G0 H0 G H (L2.wipe σ vs) (wipeE e vs)
  | [] => g
  | v :: vs => (g.wipe vs).setN v
theorem wipe_wipe {σ : L2.St} : ∀ {vs : List Nat}, L2.wipe (L2.wipe σ vs) vs = L2.wipe σ vs := by
  have q : ∀ (ws vs : List Nat), (∀ j ∈ ws, j ∈ vs) → L2.wipe (L2.wipe σ ws) vs = L2.wipe σ vs := by
    intro ws
    induction ws with
    | nil => intro vs _; rfl
    | cons w ws ih =>
      intro vs h
      show L2.wipe ((L2.wipe σ ws).set w none) vs = _
      rw [wipe_set (h w List.mem_cons_self)]
      exact ih vs fun j hj => h j (List.mem_cons_of_mem _ hj)
  intro vs
  exact q vs vs fun _ h => h
/-- a thing made since changes -/
theorem Stp.mut {Gs Hs G H : Hp} {p : Addr} {o : HO} (s : Stp b [] Gs Hs G H) (hb : b.a ≠ .some p) (hp : Hs p = none) (hg : G p = none) : Stp b [] Gs Hs G (L2.upd H p o) := by
  refine ⟨s.g, fun a u hb' nm h => .inl ?_, s.new, fun a u h => ?_, fun a ha h => ?_⟩
  · rw [upd_ne (ne_of_none h hp)]; exact s.fr0 hb' h
  · rw [upd_ne (ne_of_none h hg)]; exact s.ex a u h
  · obtain ⟨h1, q, ns, i, n, z, h2, h3⟩ := s.bag a ha h
    exact ⟨h1, q, ns, i, n, z, by rw [upd_ne (fun z => hb (by rw [← z]; exact ha))]; exact h2, h3⟩
structure PDTs (X : Cx) (b : Bg) (ifs : List Expr) (u : DT) : Prop where
  ex : ∃ t, PTs X ifs t ∧ LT X.K b t u
def uYes : DT := fun _ P => P true
theorem lt_yes : LT K b tYes uYes := fun L G0 H0 G H σ e P Q g h k => k true G H (Stp.refl g.ex) h
def uLc (ui : DI) (ug : DG) (ut : DT) (ue : DE) (vs : List Nat) : DE := fun e P => ui e fun xs => ∃ W : Nat → List D → Prop, W 0 [] ∧
  (∀ (i : Nat) x acc, xs[i]? = some x → W i acc → ug x (wipeE e vs) fun e2 => ut e2 fun c => if c = true then ue e2 (R.keep fun d => acc.length < 1000000 ∧ W (i + 1) (acc ++ [d])) else W (i + 1) acc) ∧ ∀ acc, W xs.length acc → P (.ow (.lst acc))
theorem le_lc {wi : TI} {ui : DI} {g : TG} {js : List Nat} {ug : DG} {tt : TT} {ut : DT} {te : TE} {ue : DE} {vs : List Nat} (hi : LI K b wi ui) (hg : LG K b js g ug) (ht : LT K b tt ut) (he : LE K b te ue) (hj : ∀ j ∈ js, j ∈ vs) : LE K b (tLc wi g tt te vs) (uLc ui ug ut ue vs) := by
  intro L G0 H0 G H σ e P Q gd hu k
  refine hi L G0 H0 G H σ e _ _ gd hu fun J xs G1 H1 s1 hJ q => ?_
  obtain ⟨W, w0, hs, hd⟩ := q
  have g1 := gd.step s1
  intro Dl hD
  have nb : b.a ≠ some Dl := g1.nb hD
  have s0 : Stp b [] G1 H1 G1 (L2.upd H1 Dl (.lst [])) := Stp.made g1.ex hD
  refine ⟨fun i m H => m = xs.length - i ∧ i ≤ xs.length ∧ ∃ G acc va, Stp b [] G1 H1 G H ∧ G Dl = none ∧ H Dl = some (.lst va) ∧ RepL K G acc va ∧ W i acc,
    ⟨xs.length, by simp, Nat.zero_le _, G1, [], [], s0, g1.ex.none hD, upd_same, rfl, w0⟩, ?_⟩
  rintro i m H ⟨rfl, hi, G', acc, va, st, hgD, hHD, hra, w⟩
  have gg := (g1.step st).wipe vs
  obtain ⟨j1, j2⟩ := hJ G' H st.g st.ex gg.lk i
  by_cases c : i < xs.length
  · obtain ⟨go, y⟩ := j1 xs[i] (by simp [c])
    refine .inr ⟨go, fun H' => ∃ G acc va, Stp b [] G1 H1 G H' ∧ G Dl = none ∧ H' Dl = some (.lst va) ∧ RepL K G acc va ∧ W (i + 1) acc, fun H' q => ⟨xs.length - (i + 1), by omega, rfl, by omega, q⟩, fun v H2 hy => ?_⟩
    obtain ⟨G2, s2, hx⟩ := y v H2 hy
    have g2 := gg.step s2
    refine hg L G0 H0 G2 H2 _ _ _ v _ _ g2 hx (hs i xs[i] acc (by simp [c]) w) fun σ3 e3 g3 w3 q3 => ⟨?_, ?_⟩
    · rw [w3 vs hj, wipe_wipe]
    · refine ht L G0 H0 G2 H2 σ3 e3 _ _ g3 q3 fun c3 G4 H4 s4 q4 => ?_
      have g4 := g3.step s4
      have s14 := (st.trans s2).trans s4
      have d2 : G2 Dl = none := s2.new Dl nb (by rw [hHD]; simp) hgD
      have d4 : G4 Dl = none := s4.new Dl nb (by rw [s2.fr0 nb hHD]; simp) d2
      have h4 : H4 Dl = some (.lst va) := s4.fr0 nb (s2.fr0 nb hHD)
      cases c3 with
      | false => exact ⟨G4, acc, va, s14, d4, h4, (hra.mono s2.g).mono s4.g, q4⟩
      | true =>
        refine he L G0 H0 G4 H4 σ3 e3 _ _ g4 q4 fun v5 r5 G5 H5 s5 hr5 q5 => ?_
        obtain ⟨d, G6, s6, hd6, hl, q6⟩ := hr5.freeze s5 q5
        have d6 : G6 Dl = none := s6.new Dl nb (by rw [h4]; simp) d4
        have h6 : H5 Dl = some (.lst va) := s6.fr0 nb h4
        have ra : RepL K G6 acc va := ((hra.mono s2.g).mono s4.g).mono s6.g
        exact ⟨va, h6, by rw [ra.length]; exact lt_line hl, G6, acc ++ [d], va ++ [v5], (s14.trans s6).mut nb hD d6, d6, upd_same, ra.append (RepL.one hd6), q6⟩
  · have e1 : i = xs.length := by omega
    subst e1
    refine .inl ⟨j2 (Nat.le_refl _), ?_⟩
    exact k _ (.ow (.lst acc)) G' H (s1.trans st) ⟨Dl, _, rfl, nb, s1.back Dl nb hD, hgD, hHD, va, rfl, hra⟩ (hd acc w)
/-- the block of a comprehension -/
abbrev Blk (X : Cx) (scope : Scope) (Φ : Cx → Prop) : Prop := ∀ (s : Shared) (H : Hp) (C : Addr) (cl : List (Str × Addr)) (fp : List Addr), Φ (X.blk s H scope (compEnvC scope cl C X.env) fp)
theorem blk_e {scope : Scope} {a : Expr} {u : DE} (h : Blk X scope fun Y => PD Y b a u) : ∃ t, (∀ (s : Shared) (H : Hp) (C : Addr) (cl : List (Str × Addr)) (fp : List Addr), PE (X.blk s H scope (compEnvC scope cl C X.env) fp) a t) ∧ LE X.K b t u := by
  have q : ∀ z : Shared × Hp × Addr × List (Str × Addr) × List Addr, ∃ t, PE (X.blk z.1 z.2.1 scope (compEnvC scope z.2.2.2.1 z.2.2.1 X.env) z.2.2.2.2) a t ∧ LE X.K b t u := fun z => (h z.1 z.2.1 z.2.2.1 z.2.2.2.1 z.2.2.2.2).ex
  exact ⟨fun σ H Q => ∀ z, (q z).choose σ H Q, fun s H C cl fp => ⟨fun pins s' σ' H' Q I hh => (q (s, H, C, cl, fp)).choose_spec.1.run pins s' σ' H' Q I (hh _)⟩, fun L G0 H0 G H σ e P Q g hu k z => (q z).choose_spec.2 L G0 H0 G H σ e P Q g hu k⟩
theorem blk_t {scope : Scope} {ifs : List Expr} {u : DT} (h : Blk X scope fun Y => PDTs Y b ifs u) : ∃ t, (∀ (s : Shared) (H : Hp) (C : Addr) (cl : List (Str × Addr)) (fp : List Addr), PTs (X.blk s H scope (compEnvC scope cl C X.env) fp) ifs t) ∧ LT X.K b t u := by
  have q : ∀ z : Shared × Hp × Addr × List (Str × Addr) × List Addr, ∃ t, PTs (X.blk z.1 z.2.1 scope (compEnvC scope z.2.2.2.1 z.2.2.1 X.env) z.2.2.2.2) ifs t ∧ LT X.K b t u := fun z => (h z.1 z.2.1 z.2.2.1 z.2.2.2.1 z.2.2.2.2).ex
  exact ⟨fun σ H Q => ∀ z, (q z).choose σ H Q, fun s H C cl fp => ⟨fun pins s' σ' H' Q I hh => (q (s, H, C, cl, fp)).choose_spec.1.run pins s' σ' H' Q I (hh _)⟩, fun L G0 H0 G H σ e P Q g hu k z => (q z).choose_spec.2 L G0 H0 G H σ e P Q g hu k⟩
theorem blk_g {scope : Scope} {a : Expr} {js : List Nat} {u : DG} (h : Blk X scope fun Y => PDG Y b a js u) : ∃ t, (∀ (s : Shared) (H : Hp) (C : Addr) (cl : List (Str × Addr)) (fp : List Addr), PG (X.blk s H scope (compEnvC scope cl C X.env) fp) a t) ∧ LG X.K b js t u := by
  have q : ∀ z : Shared × Hp × Addr × List (Str × Addr) × List Addr, ∃ t, PG (X.blk z.1 z.2.1 scope (compEnvC scope z.2.2.2.1 z.2.2.1 X.env) z.2.2.2.2) a t ∧ LG X.K b js t u := fun z => (h z.1 z.2.1 z.2.2.1 z.2.2.2.1 z.2.2.2.2).ex
  exact ⟨fun v σ H Q => ∀ z, (q z).choose v σ H Q, fun s H C cl fp => ⟨fun pins s' σ' H' v u Q I r hh => (q (s, H, C, cl, fp)).choose_spec.1.run pins s' σ' H' v u Q I r (hh _)⟩, fun L G0 H0 G H σ e d v P Q g hd hu k z => (q z).choose_spec.2 L G0 H0 G H σ e d v P Q g hd hu k⟩
theorem dts_nil : PDTs X b [] uYes := ⟨_, pts_nil, lt_yes⟩
theorem dts_one {c : Expr} {u : DT} (h : PDT X b c u) : PDTs X b [c] u := by
  obtain ⟨t, p, l⟩ := h
  exact ⟨_, pts_one p, l⟩
theorem blkD {N : List Str} {sc scope : Scope} {own : List (Str × Nat)} (h : blkC N sc scope own = true) (e1 : X.N = N := by rfl) (e2 : X.env.scope = sc := by rfl) : blkC X.N X.env.scope scope own = true := by
  rw [e1, e2]; exact h
theorem d_lc {elt tg iter : Expr} {ifs : List Expr} {scope : Scope} {own : List (Str × Nat)} {pos : Pos} {ui : DI} {js : List Nat} {ug : DG} {ut : DT} {ue : DE} (hN : X.N.Nodup) (ok : blkC X.N X.env.scope scope own = true) (hj : ∀ j ∈ js, j ∈ own.map (·.2)) (hi : PDI X b tg iter ui)
    (hg : Blk X scope fun Y => PDG Y b tg js ug) (ht : Blk X scope fun Y => PDTs Y b ifs ut) (he : Blk X scope fun Y => PD Y b elt ue) (hc : X.calm = true := by rfl) (hs : ∀ x, foldedSetIterable iter X.env x = pure x := by intro _; rfl) :
    PD X b (.ListComp elt [⟨tg, iter, ifs, 0⟩] scope pos) (uLc ui ug ut ue (own.map (·.2))) := by
  obtain ⟨wi, p1, l1⟩ := hi
  obtain ⟨g, p2, l2⟩ := blk_g hg
  obtain ⟨tt, p3, l3⟩ := blk_t ht
  obtain ⟨te, p4, l4⟩ := blk_e he
  exact ⟨_, pe_lc hc hN p1 (blkOk_by ok) p2 p3 p4 hs, le_lc l1 l2 l3 l4 hj⟩
/-! ### a def -/
def env0 (N : List Str) (ds : List D) : List Sl := ds.map .sh ++ List.replicate (N.length - ds.length) .un
def envB (N : List Str) (ds : List D) : List Sl := .bag :: env0 N.tail ds
theorem slot_start {G H0 H : Hp} : ∀ {ds : List D} {vs : List V}, RepL K G ds vs → ∀ (m n : Nat) (i : Nat) (x : Sl), (ds.map Sl.sh ++ List.replicate m .un)[i]? = some x → SlotOk K b H0 G H (vs.map some ++ List.replicate n none)[i]? x
  | [], _, h, m, n, i, x, e => by
    cases h
    rw [List.map_nil, List.nil_append, List.getElem?_replicate] at e
    split at e
    · cases e; trivial
    · cases e
  | d :: ds, _, ⟨v, r, h1, h2, h3⟩, m, n, 0, x, e => by
    subst h1
    cases e
    exact ⟨v, rfl, h2⟩
  | d :: ds, _, ⟨v, r, h1, h2, h3⟩, m, n, i + 1, x, e => by
    subst h1
    exact slot_start h3 m n i x (by simpa using e)
theorem noown {ds : List D} {m i : Nat} {q : Option Addr} {o : OD} : (ds.map Sl.sh ++ List.replicate m .un)[i]? ≠ some (.own q o) := fun h => by
  have q := List.mem_of_getElem? h
  rcases List.mem_append.mp q with z | z
  · obtain ⟨d, _, e⟩ := List.mem_map.mp z
    cases e
  · cases (List.mem_replicate.mp z).2
theorem notr {ds : List D} {m i : Nat} {t : OT} : (ds.map Sl.sh ++ List.replicate m .un)[i]? ≠ some (.tr t) := fun h => by
  have q := List.mem_of_getElem? h
  rcases List.mem_append.mp q with z | z
  · obtain ⟨d, _, e⟩ := List.mem_map.mp z
    cases e
  · cases (List.mem_replicate.mp z).2
theorem good0 {G H : Hp} {N : List Str} {ds : List D} {vs : List V} (ex : Ex G H) (h : RepL K G ds vs) : Good K (bN none) [] G H G H (L2.start N vs) (env0 N ds) where
  stp := Stp.refl ex
  slot := fun i x e => slot_start h _ _ i x e
  inj := fun i j t t' o o' a h1 => absurd h1 noown
  bag := fun a h => by cases h
  lk := fun a od u m => by cases m
  len := by
    have := h.length
    unfold env0 L2.start
    simp [this]
  injT := fun i j t y a h1 => absurd h1 notr
  xl := xl_n
theorem goodB {G H : Hp} {a : Addr} {N : List Str} {ds : List D} {vs : List V} (ex : Ex G H) (hb : BagOk G H a) (h : RepL K G ds vs) (hN : N.length = N.tail.length + 1) : Good K (bN (some a)) [] G H G H (L2.start N (.ref a :: vs)) (envB N ds) := by
  have es : L2.start N (.ref a :: vs) = some (.ref a) :: (vs.map some ++ List.replicate (N.tail.length - vs.length) none) := by
    unfold L2.start
    rw [List.map_cons, List.length_cons, hN, Nat.add_sub_add_right]
    rfl
  rw [es]
  refine ⟨⟨Stp.refl ex, fun i x e => ?_, fun i j t t' o o' c h1 h2 _ _ => ?_, fun c hc => by cases hc; exact hb, fun c od u m => (by cases m), ?_, fun i j t y c h1 => ?_⟩, xl_n⟩
  · cases i with
    | zero => cases e; exact ⟨a, rfl, rfl⟩
    | succ i => exact slot_start h _ _ i x (by simpa [envB, env0] using e)
  · cases i with
    | zero => cases h1
    | succ i => exact absurd (show (ds.map Sl.sh ++ List.replicate _ .un)[i]? = some (.own t o) by simpa [envB, env0] using h1) noown
  · have := h.length
    unfold envB env0
    simp [this]
  · cases i with
    | zero => cases h1
    | succ i => exact absurd (show (ds.map Sl.sh ++ List.replicate _ .un)[i]? = some (.tr t) by simpa [envB, env0] using h1) notr
section
variable {P : Program} {w : World} {mg : Str → Option Value} {base : Heap}
theorem fn_data {x qual : Str} {st : Stmt} {f : Addr} {fd : FuncData} {N ps : List Str} {k : Nat} {fs : FS} {u : DS} (F : Fun K x qual st f fd) (hm : mg x = some (.ref f)) (hbi : Binds K fd ps []) (S : FnScope N ps (defScope st)) (len : ∀ ds P, fs ds P → ds.length = ps.length)
    (hb : ∀ (cdv : Value) (A : Around) (outer : List Env) (s : Shared) (H : Hp) (E : XK), Room k (A.deeper (envOfC qual (defScope st) s.heap.objs.size f cdv)) → PDSs (cxOf CX0 P w K mg base N qual (defScope st) f cdv A outer s H E).nox (bN none) (defBody st) u)
    (hu : ∀ ds P, fs ds P → u ⟨fun _ => P (.sh .non), fun r _ => P r, fun _ => False, fun _ => False⟩ (env0 N ds)) : Known P w K mg base x (k + 1) ps (spN K fs) := by
  refine ⟨f, fd, F.ok S (fun vs H Q E h => ?_) (fun cdv A outer s H vs Q E hr h => ?_), hm, F.kp, hbi⟩
  · obtain ⟨G, ds, P, _, hr, hf, _⟩ := h
    rw [hr.length]; exact len ds P hf
  · obtain ⟨G, ds, P', ex, hds, hf, kk⟩ := h
    obtain ⟨t, p, l⟩ := hb cdv A outer s H E hr
    refine ⟨t, p, l [] G H G H _ _ ⟨fun _ => P' (.sh .non), fun r _ => P' r, fun _ => False, fun _ => False⟩ _ (good0 ex hds) ⟨fun G' H' σ e g h => ?_, fun G' H' σ e v r g hr h => ?_, fun G' H' σ e g h => h.elim, fun G' H' σ e g h => h.elim⟩ (hu ds P' hf)⟩
    · exact kk .non (.sh .non) G' H' g.stp rfl h
    · exact kk v r G' H' g.stp hr h
theorem fn_bag {x qual : Str} {st : Stmt} {f : Addr} {fd : FuncData} {N ps : List Str} {k : Nat} {fs : FS} {u : DS} (F : Fun K x qual st f fd) (hm : mg x = some (.ref f)) (hbi : Binds K fd ps []) (S : FnScope N ps (defScope st)) (len : ∀ ds P, fs ds P → ds.length + 1 = ps.length) (hN : N.length = N.tail.length + 1)
    (hb : ∀ (b : Option Addr) (cdv : Value) (A : Around) (outer : List Env) (s : Shared) (H : Hp) (E : XK), Room k (A.deeper (envOfC qual (defScope st) s.heap.objs.size f cdv)) → PDSs (cxOf CX0 P w K mg base N qual (defScope st) f cdv A outer s H E).nox (bN b) (defBody st) u)
    (hu : ∀ ds P, fs ds P → u ⟨fun _ => P (.sh .non), fun r _ => P r, fun _ => False, fun _ => False⟩ (envB N ds)) : Known P w K mg base x (k + 1) ps (spB K fs) := by
  refine ⟨f, fd, F.ok S (fun vs H Q E h => ?_) (fun cdv A outer s H vs Q E hr h => ?_), hm, F.kp, hbi⟩
  · obtain ⟨a, vs', G, ds, P, rfl, _, _, hr, hf, _⟩ := h
    rw [List.length_cons, hr.length]; exact len ds P hf
  · obtain ⟨a, vs', G, ds, P', rfl, ex, hbag, hds, hf, kk⟩ := h
    obtain ⟨t, p, l⟩ := hb (.some a) cdv A outer s H E hr
    refine ⟨t, p, l [] G H G H _ _ ⟨fun _ => P' (.sh .non), fun r _ => P' r, fun _ => False, fun _ => False⟩ _ (goodB ex hbag hds hN) ⟨fun G' H' σ e g h => ?_, fun G' H' σ e v r g hr h => ?_, fun G' H' σ e g h => h.elim, fun G' H' σ e g h => h.elim⟩ (hu ds P' hf)⟩
    · exact kk .non (.sh .non) G' H' g.stp rfl h
    · exact kk v r G' H' g.stp hr h
end
end
end DL
namespace DL
open PySem L2 PyProof.Rows
section
variable {X : Cx} {b : Bg} {K : PySem.W.Frag}
/-- a value is put into a slot; other new things stay new -/
theorem Good.into {L : Lk} {G0 H0 G H : Hp} {σ : L2.St} {e : List Sl} {r : R} {v : V} {own : Bool} {P : Sl → Prop} (g : Good K b L G0 H0 G H σ e) (i : Nat) (h : RepX K b H0 σ e G H r v) (k : r.into own P) :
    ∃ s G', Good K b L G0 H0 G' H (σ.set i (some v)) (e.set i s) ∧ P s ∧ Sub G G' ∧ (∀ a, (∀ o, r = .ow o → v ≠ .ref a) → G a = none → G' a = none) ∧ (∀ q' o', s = .own q' o' → ∃ o, r = .ow o) ∧ ∀ t, s ≠ .tr t := by
  cases r with
  | al i o => exact k.elim
  | tr t => exact k.elim
  | sh d => exact ⟨.sh d, G, g.setS i h, k.2, Sub.refl G, fun _ _ h => h, (fun _ _ h => nomatch h), (fun _ h => nomatch h)⟩
  | ow o =>
    have h0 := h
    obtain ⟨a, ho, rfl, h2, h3, h4, h5, h6⟩ := h
    by_cases c : own = true
    · refine ⟨.own none o, G, g.setO i h2 h3 h4 h5 h6, ?_, Sub.refl G, fun _ _ h => h, fun _ _ _ => ⟨o, rfl⟩, fun _ h => nomatch h⟩
      have k1 : if own = true then P (.own none o) else P (.sh o.d) := k
      rwa [if_pos c] at k1
    · have k' : P (.sh o.d) := by
        have k1 : if own = true then P (.own none o) else P (.sh o.d) := k
        rwa [if_neg c] at k1
      have g1 := g.setO i h2 h3 h4 h5 h6
      by_cases hi : i < e.length
      · have hi1 : (e.set i (.own none o))[i]? = some (.own none o) := by rw [get_set, if_pos rfl, if_pos hi]
        -- given up at once
        refine ⟨.sh o.d, L2.upd G a ho, ?_, k', sub_upd h4, fun c nc hc => ?_, (fun _ _ h => nomatch h), (fun _ h => nomatch h)⟩
        · obtain ⟨a', ho', q1, q2, q3, q4, q5, q6, _⟩ := g1.slot i _ hi1
          rw [get_set, if_pos rfl, if_pos (by rw [← g.len]; exact hi)] at q1
          cases q1
          rw [h5] at q5
          cases q5
          have sub := sub_upd (o := ho) h4
          refine (Good.setS (d := o.d) (v := .ref a) (σ := σ) (e := e) ?_ i (h6.rep h4))
          refine ⟨⟨⟨g.stp.g.trans sub, g.stp.fr, fun c hc hu hg => ?_, fun c u hu => ?_, fun c hc h => ?_⟩, fun j x hx => ?_, g.inj, fun c hc => ?_, g.lk, g.len, g.injT⟩, g.xl⟩
          · rw [upd_ne (fun z => hu (by rw [z]; exact h3.1))]
            exact g.stp.new c hc hu hg
          · by_cases z : c = a
            · subst z; rw [upd_same] at hu; cases hu; exact .inl h5
            · rw [upd_ne z] at hu; exact (g.ex c u hu).mono sub
          · obtain ⟨z1, s, ns, i, n, z, z2, z3, z4⟩ := g.stp.bag c hc h
            exact ⟨by rw [upd_ne (fun z => h2 (by rw [← z]; exact hc))]; exact z1, s, ns, i, n, z, z2, sub _ _ z3, z4⟩
          · have q := g.slot j x hx
            cases x with
            | un => trivial
            | sh d => obtain ⟨v, z1, z2⟩ := q; exact ⟨v, z1, z2.mono sub⟩
            | own t2 o2 =>
              obtain ⟨a2, ho2, z1, z2, z3, z4, z5, z6, z7⟩ := q
              have ne : a2 ≠ a := fun z => by
                subst z
                exact h3.2 j (.own t2 o2) hx z1
              exact ⟨a2, ho2, z1, z2, z3, by rw [upd_ne ne]; exact z4, z5, z6.mono sub, z7⟩
            | bag => exact q
            | tr t =>
              obtain ⟨v, z1, z2⟩ := q
              exact ⟨v, z1, z2.node, z2.rep.frame sub fun _ _ _ h => h, z2.nd, fun c1 hc1 => ⟨(z2.ok c1 hc1).1, (z2.ok c1 hc1).2.1, by rw [upd_ne (fun z : c1 = a => h3.2 j (.tr t) hx (by rw [← z]; exact hc1))]; exact (z2.ok c1 hc1).2.2⟩⟩
          · obtain ⟨z1, s, ns, i, n, z, z2, z3, z4⟩ := g.bag c hc
            exact ⟨by rw [upd_ne (fun z => h2 (by rw [← z]; exact hc))]; exact z1, s, ns, i, n, z, z2, sub _ _ z3, z4⟩
        · rw [upd_ne (fun z => nc o rfl (by rw [z]))]; exact hc
      · have e1 : e.set i (.own none o) = e := List.set_eq_of_length_le (by omega)
        have e2 : e.set i (.sh o.d) = e := List.set_eq_of_length_le (by omega)
        rw [e1] at g1
        exact ⟨.sh o.d, G, Eq.mp (congrArg _ e2.symm) g1, k', Sub.refl G, fun _ _ h => h, (fun _ _ h => nomatch h), (fun _ h => nomatch h)⟩
def uPar (i j : Nat) (o1 o2 : Bool) (u1 u2 : DE) : DS := fun DD e => u1 e fun r1 => u2 e fun r2 => r1.into o1 fun s1 => r2.into o2 fun s2 => DD.nx ((e.set i s1).set j s2)
theorem ds_par {i j : Nat} {x y : Str} {a c : Expr} {u1 u2 : DE} (o1 o2 : Bool) {px py pt pos : Pos} {kt k2 pt2} (hN : X.N.Nodup) (h1 : PD X b a u1) (h2 : PD X b c u2) (hij : i ≠ j := by decide)
    (hi : X.N[i]? = some x := by rfl) (hj : X.N[j]? = some y := by rfl) (hs : starEach (a :: [c]) X.env = (false, eval a X.env) :: starEach [c] X.env := by rfl) (hs2 : starEach (c :: []) X.env = (false, eval c X.env) :: starEach [] X.env := by rfl)
    (hc : X.calm = true := by rfl) (hx : X.env.scope.names.lookup x = some .local := by rfl) (hy : X.env.scope.names.lookup y = some .local := by rfl) (hw : swappedStores [.Tuple [.Name x px, .Name y py] kt pt] (.Tuple [a, c] k2 pt2) X.env = pure (some [x, y]) := by rfl) :
    PDS X b (.Assign [.Tuple [.Name x px, .Name y py] kt pt] (.Tuple [a, c] k2 pt2) pos) (uPar i j o1 o2 u1 u2) := by
  obtain ⟨t1, p1, l1⟩ := h1
  obtain ⟨t2, p2, l2⟩ := h2
  refine ⟨_, ps_par hc hN hi hj hij hx hy (pa_cons p1 (pa_cons p2 pa_nil hs2) hs) hw, ?_⟩
  intro L G0 H0 G H σ e DD D g ok hu
  refine l1 L G0 H0 G H σ e _ _ g hu fun v r1 G1 H1 s1 hr1 q1 => ?_
  have g1 := g.step s1
  refine l2 L G0 H0 G1 H1 σ e _ _ g1 q1 fun w r2 G2 H2 s2 hr2 q2 => ?_
  have g2 := g1.step s2
  have hr1' := hr1.step s2
  refine ⟨v, w, rfl, ?_⟩
  have x1 : RepX X.K b H0 σ e G2 H2 r1 v := by
    cases r1 with
    | sh d => exact hr1'
    | al i o => exact hr1'
    | tr t => exact NewT.imp hr1' fun a h2 h3 => ⟨h2, g.fresh h2 h3⟩
    | ow o => obtain ⟨a, ho, e1, e2, e3, e4⟩ := hr1'; exact ⟨a, ho, e1, e2, g.fresh e2 e3, e4⟩
  obtain ⟨s, G3, g3, q3, sub, kp, ks, kt⟩ := g2.into i x1 q2
  have x2 : RepX X.K b H0 (σ.set i (some v)) (e.set i s) G3 H2 r2 w := by
    cases r2 with
    | sh d => exact Rep.mono sub hr2
    | al k o => exact q3.elim
    | tr t => exact q3.elim
    | ow o =>
      obtain ⟨a, ho, e1, e2, e3, e4, e5, e6⟩ := hr2
      have nv : ∀ o, r1 = .ow o → v ≠ .ref a := fun o1 z0 z => by
        subst z0
        subst z
        obtain ⟨a1, ho1, z1, z2, z3, z4, z5, _⟩ := hr1
        cases z1
        rw [e3] at z5; cases z5
      have f2 := g1.fresh e2 e3
      refine ⟨a, ho, e1, e2, ⟨f2.1, fun j' y hj' hs' => ?_⟩, kp a nv e4, e5, e6.mono sub⟩
      rw [get_set] at hj' hs'
      by_cases c : i = j'
      · rw [if_pos c] at hs'
        rw [if_pos c] at hj'
        split at hj'
        · cases hj'
          cases s with
          | own q' o' =>
            obtain ⟨o1, z0⟩ := ks _ o' rfl
            split at hs'
            · have hs' : some (some v) = some (some (V.ref a)) := hs'
              cases hs'
              exact nv o1 z0 rfl
            · cases hs'
          | tr t => exact kt t rfl
          | _ => exact hs'
        · cases hj'
      · rw [if_neg c] at hj' hs'
        exact f2.2 j' y hj' hs'
  obtain ⟨s', G4, g4, q4, _⟩ := g3.into j x2 q3
  exact ok.nx _ _ _ _ g4 q4
end
end DL
namespace DL
open PySem L2 PyProof.Rows
section
variable {X : Cx} {b : Bg} {K : PySem.W.Frag}
/-! ### list of a text, of a range; count; reversed slices; signs of numbers -/
theorem vals_of {xs : List V} {us : List Value} (hl : xs.length = us.length) (h : ∀ (i : Nat) (x : V) (u : Value), xs[i]? = some x → us[i]? = some u → RelV x u) : Vals xs us := by
  induction xs generalizing us with
  | nil =>
    cases us with
    | nil => exact .nil
    | cons u us => cases hl
  | cons x xs ih =>
    cases us with
    | nil => cases hl
    | cons u us => exact .cons (h 0 x u rfl rfl) (ih (by simpa using hl) fun i x' u' h1 h2 => h (i + 1) x' u' (by simpa using h1) (by simpa using h2))
theorem cr_listStr (hc : X.calm = true) : CallR X (.type "list") (fun xs H Q => ∃ z : Str, xs = [.str z] ∧ z.length ≤ sizeLine ∧ ∀ p, H p = none → Q (.ref p) (upd H p (.lst (z.cps.toList.map fun c => V.str (sign c))))) := by
  intro pins s σ H xs us Q I rs h
  obtain ⟨z, rfl, hz, q⟩ := h
  cases rs with
  | cons rx rt =>
    cases rt
    obtain ⟨t, rfl⟩ := rx
    refine PySem.call_list_str (I.ok.hd hc) z t (hn := hz) fun h' tk acc' c' kp e hi => ?_
    refine ⟨.ref s.heap.objs.size, _, I.laid (t' := tk) kp (Nat.le_refl _) (o := .lst (z.cps.toList.map fun c => V.str (sign c))) ⟨by simpa [Str.length] using hz, acc'.toList, c', ?_, by simpa using e⟩, rfl, q _ (I.hok.fresh (Nat.le_refl _))⟩
    refine vals_of (by simp [hi.1]) fun i x u h1 h2 => ?_
    obtain ⟨c, t', hc, rfl⟩ := hi.2 i u (by simpa using h2)
    rw [List.getElem?_map] at h1
    have e2 : z.cps.toList[i]? = some c := by simpa using hc
    rw [e2] at h1
    cases h1
    exact ⟨t', rfl⟩
def fList2 (d : D) (P : R → Prop) : Prop := match d with
  | .lst xs => P (.ow (.lst xs))
  | .tup xs => P (.ow (.lst xs))
  | .str s => s.length ≤ 1000000 ∧ P (.ow (.lst (signs s)))
  | _ => False
theorem signs_rep {G : Hp} (s : Str) : RepL K G (signs s) (s.cps.toList.map fun c => V.str (sign c)) := repL_map (f := fun c => D.str (sign c)) (g := fun c => V.str (sign c)) (fun _ => rfl) _
theorem lc_list2 : LC K (fun xs H Q => (fun xs H Q => ∃ p ys, xs = [.ref p] ∧ (SqL K H p ys ∨ SqT K H p ys) ∧ ∀ l, H l = none → Q (.ref l) (upd H l (.lst ys))) xs H Q ∨
    (fun xs H Q => ∃ z : Str, xs = [.str z] ∧ z.length ≤ sizeLine ∧ ∀ p, H p = none → Q (.ref p) (upd H p (.lst (z.cps.toList.map fun c => V.str (sign c))))) xs H Q) fList2 := by
  intro b L G0 H0 G H σ e d x P Q g h hf k
  unfold fList2 at hf
  split at hf
  · obtain ⟨a, vs, rfl, ha, hr⟩ := h
    exact .inl ⟨a, vs, rfl, .inl (SqL.of ha), g.newL hr hf k⟩
  · obtain ⟨a, vs, rfl, ha, hr⟩ := h
    exact .inl ⟨a, vs, rfl, .inr ha, g.newL hr hf k⟩
  · cases h
    exact .inr ⟨_, rfl, le_line hf.1, g.newL (signs_rep _) hf.2 k⟩
  · exact hf.elim
theorem d_list2 {a : Expr} {u : DE} {p pos : Pos} (hm : X.mg "list" = none) (h1 : PD X b a u) (hc : X.calm = true := by rfl) (hg : Gl X "list" := by rfl) (hs : starEach (a :: []) X.env = (false, eval a X.env) :: starEach [] X.env := by rfl) (hpl : (backTo pos (starEach [] X.env)).any (·.1) = false := by rfl) :
    PD X b (.Call (.Name "list" p) [a] [] pos) (uB fList2 u) := d_t1 (callR_or call_list_of (cr_listStr hc)) lc_list2 hm (by decide +kernel) h1 hg (hs := hs) (hpl := hpl)
/-- xs[::-1] -/
def uRev (u : DE) : DE := fun e P => u e fun r => ∃ xs, r.look = .lst xs ∧ P (.ow (.lst xs.reverse))
/-- -e of an int -/
def uNeg (u : DE) : DE := fun e P => u e fun r => ∃ i : Int, r = .sh (.int i) ∧ P (.sh (.int (-i)))
theorem d_neg {a : Expr} {u : DE} {pos : Pos} (h : PD X b a u) : PD X b (.UnaryOp .USub a pos) (uNeg u) := by
  obtain ⟨t, p, l⟩ := h
  refine ⟨_, pe_un un_neg p, ?_⟩
  intro L G0 H0 G H σ e P Q g hu kk
  refine l L G0 H0 G H σ e _ _ g hu fun v r G1 H1 s1 hr q => ?_
  obtain ⟨i, rfl, hp⟩ := q
  cases hr
  exact ⟨i, rfl, kk _ (.sh (.int (-i))) G1 H1 s1 rfl hp⟩
/-- zip of two lists, of two tuples -/
theorem jok_zipT {L : Lk} {G1 : Hp} {a c : Addr} {vs ws : List V} {xs ys : List D} (h : G1 a = some (.tup vs) ∨ WT K a vs) (hr : RepL K G1 xs vs) (h' : G1 c = some (.tup ws) ∨ WT K c ws) (hr' : RepL K G1 ys ws) : JOk K b L G1 (RZ.ItzT K a c) (zips xs ys) := fun G H sub ex _ i => by
  have q : SqT K H a vs := ex_tup ex (h.imp (sub _ _) id)
  have q' : SqT K H c ws := ex_tup ex (h'.imp (sub _ _) id)
  refine ⟨fun y hy => ?_, fun hi => ⟨vs, ws, q, q', ?_⟩⟩
  · obtain ⟨x, y, hx, hx', rfl⟩ := zips_get hy
    obtain ⟨v, hv, hd⟩ := (hr.mono sub).get hx
    obtain ⟨w, hw, hd'⟩ := (hr'.mono sub).get hx'
    refine ⟨⟨vs, ws, v, w, q, q', hv, hw⟩, fun u H' hy => ?_⟩
    obtain ⟨T, z, z', rfl, hT, rfl, hz, hz'⟩ := hy
    have e := hz vs q
    have e' := hz' ws q'
    rw [hv] at e
    rw [hw] at e'
    cases e
    cases e'
    have s := sub_upd (o := .tup [v, w]) (ex.none hT)
    exact ⟨_, Stp.laid ex hT, T, _, rfl, .inl upd_same, _, _, rfl, hd.mono s, _, _, rfl, hd'.mono s, rfl⟩
  · rw [hr.length, hr'.length]
    unfold zips at hi
    rw [List.length_zipWith] at hi
    omega
def zipD (P : List D → Prop) : List D → Prop
  | [.lst xs, .lst ys] => P (zips xs ys)
  | [.tup xs, .tup ys] => P (zips xs ys)
  | _ => False
def uZip (ua : DA) : DI := fun e P => ua e (zipD P)
theorem di_zip {a c : Expr} {ua : DA} {p pos tpos : Pos} {elts : List Expr} {kk : Nat} (hm : X.mg "zip" = none) (h : PDA X b [a, c] ua) (hg : Gl X "zip" := by rfl) (hs : starEach [a, c] X.env = (false, eval a X.env) :: starEach [c] X.env := by rfl) (hpl : (backTo pos (starEach [c] X.env)).any (·.1) = false := by rfl) :
    PDI X b (.Tuple elts kk tpos) (.Call (.Name "zip" p) [a, c] [] pos) (uZip ua) := by
  obtain ⟨t, p, l⟩ := h
  refine ⟨_, RZ.pi_zipA hg hm p hs hpl, ?_⟩
  intro L G0 H0 G H σ e P Q g hu k
  refine l L G0 H0 G H σ e _ _ g hu fun vs ds G1 H1 s1 hr q => ?_
  unfold zipD at q
  split at q
  · obtain ⟨v, r, rfl, hv, hr⟩ := hr
    obtain ⟨a, vs, rfl, ha, hra⟩ := hv
    obtain ⟨v, r, rfl, hv, hr⟩ := hr
    obtain ⟨c, ws, rfl, hc, hrc⟩ := hv
    cases hr
    exact ⟨a, c, vs, ws, rfl, .inl ⟨SqL.of (ex_lst s1.ex ha), SqL.of (ex_lst s1.ex hc), k _ _ G1 H1 s1 (jok_zip ha hra hc hrc) q⟩⟩
  · obtain ⟨v, r, rfl, hv, hr⟩ := hr
    obtain ⟨a, vs, rfl, ha, hra⟩ := hv
    obtain ⟨v, r, rfl, hv, hr⟩ := hr
    obtain ⟨c, ws, rfl, hc, hrc⟩ := hv
    cases hr
    exact ⟨a, c, vs, ws, rfl, .inr ⟨ex_tup s1.ex ha, ex_tup s1.ex hc, k _ _ G1 H1 s1 (jok_zipT ha hra hc hrc) q⟩⟩
  · exact q.elim
/-! ### the law's own text -/
/-- the first draw's source -/
def spBag (K : PySem.W.Frag) : Sp := fun vs H Q _ => ∃ (a : Addr) (ns : List Int), vs = [.ref a] ∧ SqL K H a (ns.map V.int) ∧ ns.length ≤ 63 ∧
  ∀ (H' : Hp) (p s : Addr) (ms : List Int) (z : Int), H' p = some (.lst [.ref s, .int 0, .int 0, .int z]) → H' s = some (.lst (ms.map V.int)) → ms.length ≤ 63 → 0 ≤ z → z < 2147483549 → Q (.ref p) H'
def spLaw (K : PySem.W.Frag) : Sp := fun vs H Q _ => ∃ (a : Addr) (ns : List Int), vs = [.ref a] ∧ SqL K H a (ns.map V.int) ∧ ns.length ≤ 63 ∧ ∀ H', Q (.bl true) H'
section
variable {P : Program} {w : World} {mg : Str → Option Value} {base : Heap}
theorem law_text {qual : Str} {st : Stmt} {f : Addr} {fd : FuncData} {N : List Str} {k : Nat} {u : DS} {rest : List Stmt} {x y s1 : Str} {p1 p2 p3 p4 p5 : Pos} {M : List Str} (hst : defBody st = .Assign [.Name y p1] (.Call (.Name x p2) [.Name s1 p3] [] p4) p5 :: rest) (hN : N = s1 :: y :: M)
    (F : Fun K "law" qual st f fd) (S : FnScope N [s1] (defScope st)) (B : Known P w K mg base x k [s1] (spBag K))
    (h0 : ∀ (cdv : Value) (A : Around) (outer : List Env) (s : Shared) (H : Hp) (E : XK), ∀ {t : TE}, PE (cxOf CX0 P w K mg base N qual (defScope st) f cdv A outer s H E).nox (.Call (.Name x p2) [.Name s1 p3] [] p4) t → PS (cxOf CX0 P w K mg base N qual (defScope st) f cdv A outer s H E).nox (.Assign [.Name y p1] (.Call (.Name x p2) [.Name s1 p3] [] p4) p5) (tAsg t (gName 1)))
    (h1 : ∀ (cdv : Value) (A : Around) (outer : List Env) (s : Shared) (H : Hp) (E : XK), Room k (A.deeper (envOfC qual (defScope st) s.heap.objs.size f cdv)) → PE (cxOf CX0 P w K mg base N qual (defScope st) f cdv A outer s H E).nox (.Call (.Name x p2) [.Name s1 p3] [] p4) (tCall (spBag K) [] E0 (tCons (tVar 0) tNil)))
    (hb : ∀ (b : Option Addr) (cdv : Value) (A : Around) (outer : List Env) (s : Shared) (H : Hp) (E : XK), Room k (A.deeper (envOfC qual (defScope st) s.heap.objs.size f cdv)) → PDSs (cxOf CX0 P w K mg base N qual (defScope st) f cdv A outer s H E).nox (bN b) rest u)
    (hu : u ⟨fun _ => False, fun r _ => r = .sh (.bl true), fun _ => False, fun _ => False⟩ (.un :: .bag :: List.replicate M.length .un)) : FnOk P w K mg base CX0 (k + 1) f fd [s1] (spLaw K) := by
  refine F.ok S (fun vs H Q E h => ?_) (fun cdv A outer s H vs Q E hr h => ?_)
  · obtain ⟨a, ns, rfl, _⟩ := h; rfl
  · obtain ⟨a, ns, rfl, hS, hl, kk⟩ := h
    have q : ∀ b : Option Addr, ∃ t, PSs (cxOf CX0 P w K mg base N qual (defScope st) f cdv A outer s H E).nox rest t ∧ LS K (bN b) t u := fun b => (hb b cdv A outer s H E hr).ex
    have pr : PSs (cxOf CX0 P w K mg base N qual (defScope st) f cdv A outer s H E).nox rest (fun D σ H => ∃ b, (q b).choose D σ H) :=
      ⟨fun pins s' σ H' D I ⟨b, hh⟩ => (q b).choose_spec.1.run pins s' σ H' D I hh⟩
    rw [hst]
    refine ⟨_, pss_cons (h0 cdv A outer s H E (h1 cdv A outer s H E hr)) pr, ?_⟩
    subst hN
    refine ⟨_, rfl, a, ns, rfl, hS, hl, fun H' p sa ms z hp hs hm z0 z1 => ?_⟩
    refine ⟨some p, ?_⟩
    have np : p ≠ sa := ne_of hp hs (fun z => by
      injection z with z
      cases ms with
      | nil => cases z
      | cons m ms => rw [List.map_cons] at z; injection z with z; cases z)
    have ex : Ex (L2.upd (fun _ => none) sa (.lst (ms.map V.int))) H' := fun c o h => by
      by_cases e : c = sa
      · subst e; rw [upd_same] at h; cases h; exact .inl hs
      · rw [upd_ne e] at h; cases h
    have es : (L2.start (s1 :: y :: M) [.ref a]).set 1 (some (.ref p)) = some (.ref a) :: some (.ref p) :: List.replicate M.length none := rfl
    show (q (some p)).choose _ ((L2.start (s1 :: y :: M) [.ref a]).set 1 (some (.ref p))) H'
    rw [es]
    refine (q (some p)).choose_spec.2 [] _ H' _ H' _ _ ⟨fun _ => False, fun r _ => r = .sh (.bl true), fun _ => False, fun _ => False⟩ _ ⟨⟨Stp.refl ex, fun i x e => ?_, fun i j t t' o o' c h1 _ _ _ => ?_, fun c hc => ?_, fun c od u m => (by cases m), ?_, fun i j t y c h1 => ?_⟩, xl_n⟩
      ⟨fun G' H' σ e g h => h.elim, fun G' H' σ e v r g hr h => ?_, fun G' H' σ e g h => h.elim, fun G' H' σ e g h => h.elim⟩ hu
    · match i with
      | 0 => cases e; trivial
      | 1 => cases e; exact ⟨p, rfl, rfl⟩
      | i + 2 =>
        have e' : (List.replicate M.length Sl.un)[i]? = some x := e
        rw [List.getElem?_replicate] at e'
        split at e'
        · cases e'; trivial
        · cases e'
    · match i with
      | 0 => cases h1
      | 1 => cases h1
      | i + 2 =>
        have e' : (List.replicate M.length Sl.un)[i]? = some (.own t o) := h1
        rw [List.getElem?_replicate] at e'
        split at e' <;> cases e'
    · cases hc
      exact ⟨upd_ne np, sa, ms, 0, 0, z, hp, upd_same, Nat.zero_le _, hm, Int.le_refl 0, z0, z1⟩
    · simp
    · match i with
      | 0 => cases h1
      | 1 => cases h1
      | i + 2 =>
        have e' : (List.replicate M.length Sl.un)[i]? = some (.tr t) := h1
        rw [List.getElem?_replicate] at e'
        split at e' <;> cases e'
    · subst h
      cases hr
      exact kk H'
end
end
end DL
namespace DL
open PySem L2 PyProof.Rows
section
variable {K : PySem.W.Frag} {P : Program} {w : World} {mg : Str → Option Value} {base : Heap}
/-- what the source of draws holds -/
structure BagD (ns : List Int) (i : Nat) (m z : Int) : Prop where
  hi : i ≤ ns.length
  hl : ns.length ≤ 63
  hm : 0 ≤ m
  hz : 0 ≤ z
  hz' : z < 2147483549
def bagL (ns : List Int) (i : Nat) (m z : Int) : List D := [.lst (ns.map .int), .int i, .int m, .int z]
/-- a draw: some number below n -/
def fPull : FS := fun ds P => ∃ n : Int, ds = [.int n] ∧ 0 < n ∧ n ≤ 1000000 ∧ ∀ j : Int, 0 ≤ j → j < n → P (.sh (.int j))
theorem bag_of {G H : Hp} {a : Addr} {ho : HO} {ns : List Int} {i : Nat} {m z : Int} (hg : G a = none) (h : H a = some ho) (r : RepO K G (.lst (bagL ns i m z)) ho) (b : BagD ns i m z) : BagOk G H a := by
  obtain ⟨vs, rfl, v0, r0, rfl, ⟨s, ws, rfl, hs, hw⟩, v1, r1, rfl, h1, v2, r2, rfl, h2, v3, r3, rfl, h3, h4⟩ := r
  cases h1; cases h2; cases h3; cases h4
  refine ⟨hg, s, ns, i, m, z, h, ?_, b.hi, b.hl, b.hm, b.hz, b.hz'⟩
  rw [hs, repL_int hw]
theorem of_bag {G H : Hp} {a : Addr} (h : BagOk G H a) : G a = none ∧ ∃ ho ns i m z, H a = some ho ∧ RepO K G (.lst (bagL ns i m z)) ho ∧ BagD ns i m z := by
  obtain ⟨hg, s, ns, i, m, z, h1, h2, h3, h4, h5, h6, h7⟩ := h
  exact ⟨hg, _, ns, i, m, z, h1, ⟨_, rfl, _, _, rfl, ⟨s, _, rfl, h2, repL_map (f := D.int) (g := V.int) (fun _ => rfl) ns⟩, _, _, rfl, rfl, _, _, rfl, rfl, _, _, rfl, rfl, rfl⟩, ⟨h3, h4, h5, h6, h7⟩⟩
theorem fn_pull {x qual : Str} {st : Stmt} {f : Addr} {fd : FuncData} {N ps : List Str} {k : Nat} {u : DS} (F : Fun K x qual st f fd) (hm : mg x = some (.ref f)) (hbi : Binds K fd ps []) (S : FnScope N ps (defScope st)) (hps : ps.length = 2) (hN : ∃ n, N.length = n + 2 )
    (hb : ∀ (cdv : Value) (A : Around) (outer : List Env) (s : Shared) (H : Hp) (E : XK), Room k (A.deeper (envOfC qual (defScope st) s.heap.objs.size f cdv)) → PDSs (cxOf CX0 P w K mg base N qual (defScope st) f cdv A outer s H E).nox (bN none) (defBody st) u)
    (hu : ∀ (q : Option Addr) (ns : List Int) (i : Nat) (m z n : Int), BagD ns i m z → 0 < n → n ≤ 1000000 →
      u ⟨fun _ => False, fun r e => ∃ ns i m z j, nth e 0 = .own q (.lst (bagL ns i m z)) ∧ BagD ns i m z ∧ r = .sh (.int j) ∧ 0 ≤ j ∧ j < n, fun _ => False, fun _ => False⟩ (.own q (.lst (bagL ns i m z)) :: .sh (.int n) :: List.replicate (N.length - 2) .un)) : Known P w K mg base x (k + 1) ps (spB K fPull) := by
  refine ⟨f, fd, F.ok S (fun vs H Q E h => ?_) (fun cdv A outer s H vs Q E hr h => ?_), hm, F.kp, hbi⟩
  · obtain ⟨a, vs', G, ds, P, rfl, _, _, hr, ⟨n, rfl, _⟩, _⟩ := h
    rw [List.length_cons, hr.length, hps]; rfl
  · obtain ⟨a, vs', G, ds, P', rfl, ex, hbag, hds, ⟨n, rfl, n0, n1, hp⟩, kk⟩ := h
    obtain ⟨v, r, rfl, hv, hr'⟩ := hds
    cases hv
    cases hr'
    obtain ⟨t, p, l⟩ := hb cdv A outer s H E hr
    obtain ⟨hg, ho, ns, i, m, z, hH, rO, hB⟩ := of_bag (K := K) hbag
    have es : L2.start N [.ref a, .int n] = some (.ref a) :: some (.int n) :: List.replicate (N.length - 2) none := rfl
    refine ⟨t, p, ?_⟩
    rw [es]
    -- the source is the def's own for the time being
    let H0 : Hp := fun c => if c = a then none else H c
    have h0a : H0 a = none := if_pos rfl
    have h0n : ∀ c, c ≠ a → H0 c = H c := fun c h => if_neg h
    have ea : ∀ {c : Addr} {o : HO}, H0 c = some o → c ≠ a ∧ H c = some o := fun {c o} h => by
      have hc : c ≠ a := fun z => by rw [z, h0a] at h; cases h
      exact ⟨hc, by rw [← h0n c hc]; exact h⟩
    have gd : Good K (bN none) [] G H0 G H (some (.ref a) :: some (.int n) :: List.replicate (N.length - 2) none) (.own (some a) (.lst (bagL ns i m z)) :: .sh (.int n) :: List.replicate (N.length - 2) .un) := by
      refine ⟨⟨⟨Sub.refl G, fun c o _ _ h => .inl (ea h).2, fun _ _ _ h => h, ex, fun c h => (by cases h)⟩, fun j y e => ?_, fun j j' q q' o o' c e1 e2 _ _ => ?_, fun c h => (by cases h), fun c od u m => (by cases m), by simp, fun i j t y c h1 => by
        match i with
        | 0 => cases h1
        | 1 => cases h1
        | i + 2 =>
          have e' : (List.replicate (N.length - 2) Sl.un)[i]? = some (.tr t) := h1
          rw [List.getElem?_replicate] at e'
          split at e' <;> cases e'⟩, xl_n⟩
      · match j with
        | 0 => cases e; exact ⟨a, ho, rfl, by simp, h0a, hg, hH, rO, fun a0 h => by cases h; rfl⟩
        | 1 => cases e; exact ⟨.int n, rfl, rfl⟩
        | j + 2 =>
          have e' : (List.replicate (N.length - 2) Sl.un)[j]? = some y := e
          rw [List.getElem?_replicate] at e'
          split at e'
          · cases e'; trivial
          · cases e'
      · have z : ∀ {j : Nat} {q : Option Addr} {o : OD}, (Sl.own (some a) (.lst (bagL ns i m z)) :: .sh (.int n) :: List.replicate (N.length - 2) .un)[j]? = some (.own q o) → j = 0 := fun {j q o} e => by
          match j with
          | 0 => rfl
          | 1 => cases e
          | j + 2 =>
            have e' : (List.replicate (N.length - 2) Sl.un)[j]? = some (.own q o) := e
            rw [List.getElem?_replicate] at e'
            split at e' <;> cases e'
        rw [z e1, z e2]
    refine l [] G H0 G H _ _ ⟨fun _ => False, fun r e => ∃ ns i m z j, nth e 0 = .own (some a) (.lst (bagL ns i m z)) ∧ BagD ns i m z ∧ r = .sh (.int j) ∧ 0 ≤ j ∧ j < n, fun _ => False, fun _ => False⟩ _ gd ⟨fun G' H' σ e g h => h.elim, fun G' H' σ e v r g hr h => ?_, fun G' H' σ e g h => h.elim, fun G' H' σ e g h => h.elim⟩ (hu (some a) ns i m z n hB n0 n1)
    obtain ⟨ns', i', m', z', j, he, hB', rfl, j0, j1⟩ := h
    cases hr
    obtain ⟨a', ho', q1, q2, q3, q4, q5, q6, q7⟩ := g.slot 0 _ (nth_get he (by simp))
    have eqa := q7 a rfl
    subst eqa
    have hb' : BagOk G' H' a' := bag_of q4 q5 q6 hB'
    refine kk (.int j) (.sh (.int j)) G' H' ⟨g.stp.g, fun c o hc nm h => .inl ?_, fun c hc h hgc => ?_, g.stp.ex, fun c hc _ => ?_⟩ rfl (hp j j0 j1)
    · have nc : c ≠ a' := fun z => hc (by rw [z])
      exact g.stp.fr0 (by simp) (by rw [h0n c nc]; exact h)
    · have nc : c ≠ a' := fun z => hc (by rw [z])
      exact g.stp.new c (by simp) (by rw [h0n c nc]; exact h) hgc
    · cases hc; exact hb'
/-- a def of the text stands at its name -/
structure Here (K : PySem.W.Frag) (mg : Str → Option Value) (x : Str) (st : Stmt) (ps : List Str) : Prop where
  ex : ∃ f fd, Fun K x x st f fd ∧ mg x = some (.ref f) ∧ Binds K fd ps []
theorem here_mk {h : Heap} {x : Str} {st : Stmt} {ps : List Str} {f : Addr} {oc : Value} {od an : Option Addr} {osl : Array (Option Value)} {kV doc pm cdv ct : Value} (X : K.In h) (G : h.Ns mainGlobals mg) (a : PySem.W.nsIn K mainGlobals x = some (some (.ref f)))
    (l : K.lookup f = some ⟨oc, od, .func (PySem.W.fnOf x x (defArgs st) (defBody st) (defScope st) .none kV doc pm an cdv ct), osl⟩) (c : PySem.W.codeIn K cdv x = true) (k : PySem.W.keepIn K (.ref f) = true)
    (hb : ∀ (kV doc pm : Value) (an : Option Addr) (cdv ct : Value) (us : List Value), us.length = ps.length → bindArgs (PySem.W.fnOf x x (defArgs st) (defBody st) (defScope st) .none kV doc pm an cdv ct) ⟨us, []⟩ = pure (ps.zip us)) : Here K mg x st ps :=
  ⟨f, _, fun_mk l c k, PySem.W.mg_of X G a, (fun_mk (st := st) l c k).binds hb⟩
theorem Known.mono {x : Str} {j k : Nat} {ps : List Str} {sp : Sp} (F : Known P w K mg base x j ps sp) (h : j ≤ k) : Known P w K mg base x k ps sp := by
  obtain ⟨f, fd, F1, h1, h2, h3⟩ := F
  exact ⟨f, fd, F1.mono h, h1, h2, h3⟩
end
end DL
namespace DL
open PySem L2 PyProof.Rows
section
variable {X : Cx} {b : Bg} {K : PySem.W.Frag}
/-! ### isinstance of data against built-in types -/
inductive TyE where
  | non | bl | int | str | lst | tup | dk
  deriving DecidableEq
def TyE.s : TyE → String
  | .non => "NoneType"
  | .bl => "bool"
  | .int => "int"
  | .str => "str"
  | .lst => "list"
  | .tup => "tuple"
  | .dk => "dict"
def tyD : D → Option TyE
  | .non => some .non
  | .bl _ => some .bl
  | .int _ => some .int
  | .str _ => some .str
  | .lst _ => some .lst
  | .tup _ => some .tup
  | .dk _ => some .dk
  | _ => none
def TyE.is : TyE → TyE → Bool
  | .bl, .int => true
  | a, b => decide (a = b)
theorem kit_tbl (a b : TyE) (hb : b ≠ .non) : kitB a.s b.s = some (a.is b) := by
  cases a <;> cases b <;> first | exact absurd rfl hb | decide +kernel
theorem tyX_of {G H : Hp} {d : D} {v : V} {t : TyE} (h : Top K G H d v) (e : tyD d = some t) : TyX K H v (.type t.s) := by
  cases d with
  | non => cases e; cases h; exact .base .non
  | bl c => cases e; cases h; exact .base (.bl c)
  | int c => cases e; cases h; exact .base (.int c)
  | str c => cases e; cases h; exact .base (.str c)
  | lst xs => cases e; obtain ⟨a, vs, rfl, ha, _⟩ := h; exact .base (.lst ha)
  | tup xs =>
    cases e
    obtain ⟨a, vs, rfl, ha, _⟩ := h
    rcases ha with (ha | ⟨o, ha⟩) | ⟨o, its, n, h1, h2, _⟩
    · exact .base (.tup ha)
    · exact .fTuple ha
    · exact .kTuple h1 h2
  | dk xs =>
    cases e
    obtain ⟨a, vs, rfl, ha, _⟩ := h
    rcases ha with ha | ⟨o, ha⟩
    · exact .base (.dK ha)
    · exact .fDict ha
  | obj _ _ => cases e
  | fn _ => cases e
  | exc _ _ => cases e
  | tabl _ _ => cases e
def uIsi (T : TyE) (u : DE) : DE := fun e P => u e fun r => orF (fun t => P (.sh (.bl (t.is T)))) (tyD r.look)
theorem d_isi {T : TyE} {x : Str} {a : Expr} {u : DE} {p p2 pos : Pos} (hm : X.mg "isinstance" = none) (hmT : X.mg x = none) (hvT : bootBuiltins x = some (.type T.s)) (hT : T ≠ .non) (h : PD X b a u) (hg : Gl X "isinstance" := by rfl) (hgT : Gl X x := by rfl) (hn : x ≠ "__name__" := by decide) (hd : (x == ("__debug__" : Str)) = false := by decide)
    (hs : starEach (a :: [.Name x p2]) X.env = (false, eval a X.env) :: starEach [.Name x p2] X.env := by rfl) (hs2 : starEach (.Name x p2 :: []) X.env = (false, eval (.Name x p2) X.env) :: starEach [] X.env := by rfl) (hpl : (backTo pos (starEach [.Name x p2] X.env)).any (·.1) = false := by rfl) :
    PD X b (.Call (.Name "isinstance" p) [a, .Name x p2] [] pos) (uIsi T u) := by
  obtain ⟨t1, p1, l1⟩ := h
  refine ⟨_, pe_callB call_isi hg hm (by decide +kernel) (pa_cons p1 (pa_cons (pe_bltn (v := .ty T.s) hgT hmT hvT rfl hn hd) pa_nil hs2) hs) (by decide) (by decide) hs hpl, ?_⟩
  intro L G0 H0 G H σ e P Q g hu k
  refine l1 L G0 H0 G H σ e _ _ g hu fun v r G1 H1 s1 hr q => ?_
  obtain ⟨t, ht, hp⟩ := orF_of q
  have tp := hr.top (g.step s1)
  exact ⟨v, .ty T.s, .type t.s, .type T.s, t.is T, rfl, .ty _, tyX_of tp ht, kit_ty (kit_tbl t T hT), k _ (.sh (.bl (t.is T))) G1 H1 s1 rfl hp⟩
def uIsi2 (T T2 : TyE) (u : DE) : DE := fun e P => u e fun r => orF (fun t => P (.sh (.bl (t.is T || t.is T2)))) (tyD r.look)
theorem d_isi2 {T T2 : TyE} {x y : Str} {a : Expr} {u : DE} {p p2 p3 pt pos : Pos} {kk} (hm : X.mg "isinstance" = none) (hmT : X.mg x = none) (hvT : bootBuiltins x = some (.type T.s)) (hT : T ≠ .non) (hmT2 : X.mg y = none) (hvT2 : bootBuiltins y = some (.type T2.s)) (hT2 : T2 ≠ .non) (h : PD X b a u)
    (hg : Gl X "isinstance" := by rfl) (hgT : Gl X x := by rfl) (hgT2 : Gl X y := by rfl) (hn : x ≠ "__name__" := by decide) (hd : (x == ("__debug__" : Str)) = false := by decide) (hn2 : y ≠ "__name__" := by decide) (hd2 : (y == ("__debug__" : Str)) = false := by decide)
    (hs : starEach (a :: [.Tuple [.Name x p2, .Name y p3] kk pt]) X.env = (false, eval a X.env) :: starEach [.Tuple [.Name x p2, .Name y p3] kk pt] X.env := by rfl) (hs2 : starEach (.Tuple [.Name x p2, .Name y p3] kk pt :: []) X.env = (false, eval (.Tuple [.Name x p2, .Name y p3] kk pt) X.env) :: starEach [] X.env := by rfl)
    (hs3 : starEach (.Name x p2 :: [.Name y p3]) X.env = (false, eval (.Name x p2) X.env) :: starEach [.Name y p3] X.env := by rfl) (hs4 : starEach (.Name y p3 :: []) X.env = (false, eval (.Name y p3) X.env) :: starEach [] X.env := by rfl) (hpl : (backTo pos (starEach [.Tuple [.Name x p2, .Name y p3] kk pt] X.env)).any (·.1) = false := by rfl) :
    PD X b (.Call (.Name "isinstance" p) [a, .Tuple [.Name x p2, .Name y p3] kk pt] [] pos) (uIsi2 T T2 u) := by
  obtain ⟨t1, p1, l1⟩ := h
  refine ⟨_, pe_callB call_isiT hg hm (by decide +kernel) (pa_cons p1 (pa_cons (pe_tup (pa_cons (pe_bltn (v := .ty T.s) hgT hmT hvT rfl hn hd) (pa_cons (pe_bltn (v := .ty T2.s) hgT2 hmT2 hvT2 rfl hn2 hd2) pa_nil hs4) hs3)) pa_nil hs2) hs) (by decide) (by decide) hs hpl, ?_⟩
  intro L G0 H0 G H σ e P Q g hu k
  refine l1 L G0 H0 G H σ e _ _ g hu fun v r G1 H1 s1 hr q => ?_
  obtain ⟨t, ht, hp⟩ := orF_of q
  have g1 := g.step s1
  refine ⟨le_line (by show 2 ≤ 1000000; decide), fun q nq => ?_⟩
  have s2 : Stp b [] G1 H1 (L2.upd G1 q (.tup [.ty T.s, .ty T2.s])) (L2.upd H1 q (.tup [.ty T.s, .ty T2.s])) := Stp.laid g1.ex nq
  have g2 := g1.step s2
  have tp := (hr.step s2).top g2
  refine ⟨v, q, _, .type t.s, [.type T.s, .type T2.s], t.is T || t.is T2, rfl, upd_same, .cons (.ty _) (.cons (.ty _) .nil), tyX_of tp ht, ?_, k _ (.sh (.bl (t.is T || t.is T2))) _ _ (s1.trans s2) rfl hp⟩
  refine kitAny_cons (kit_ty (kit_tbl t T hT)) (fun h => ?_) (fun h => by rw [h]; rfl)
  rw [h, Bool.false_or]
  exact kitAny_cons (kit_ty (kit_tbl t T2 hT2)) (fun h => by rw [h]; exact kitAny_nil) (fun h => h)
end
end DL
namespace DL
open PySem L2 PyProof.Rows
section
variable {X : Cx} {b : Bg} {K : PySem.W.Frag}
/-- what holds between two statements is said -/
def uCut (u1 u2 : DS) : DS := fun DD e => ∃ M : List Sl → Prop, u1 { DD with nx := M } e ∧ ∀ e', M e' → u2 DD e'
end
theorem ite_dec {p : Prop} [Decidable p] {A B : Prop} (h1 : p → A) (h2 : ¬ p → B) : if decide p = true then A else B := by
  by_cases h : p
  · rw [if_pos (decide_eq_true h)]; exact h1 h
  · rw [if_neg (by rw [decide_eq_false h]; decide)]; exact h2 h
theorem ite_of {c : Bool} {A B : Prop} (e : c = true) (h : A) : if c = true then A else B := by subst e; exact h
theorem ite_on {c : Bool} {A B : Prop} (e : c = false) (h : B) : if c = true then A else B := by subst e; exact h
/-! ### equations -/
theorem e_nth0 {x : Sl} {xs : List Sl} : nth (x :: xs) 0 = x := rfl
theorem e_nth1 {x : Sl} {xs : List Sl} : nth (x :: xs) 1 = nth xs 0 := rfl
theorem e_nth2 {x : Sl} {xs : List Sl} : nth (x :: xs) 2 = nth xs 1 := rfl
theorem e_nth3 {x : Sl} {xs : List Sl} : nth (x :: xs) 3 = nth xs 2 := rfl
theorem e_nth4 {x : Sl} {xs : List Sl} : nth (x :: xs) 4 = nth xs 3 := rfl
theorem e_nth5 {x : Sl} {xs : List Sl} : nth (x :: xs) 5 = nth xs 4 := rfl
theorem e_nth6 {x : Sl} {xs : List Sl} : nth (x :: xs) 6 = nth xs 5 := rfl
theorem e_nth7 {x : Sl} {xs : List Sl} : nth (x :: xs) 7 = nth xs 6 := rfl
theorem e_nth8 {x : Sl} {xs : List Sl} : nth (x :: xs) 8 = nth xs 7 := rfl
theorem e_nth9 {x : Sl} {xs : List Sl} : nth (x :: xs) 9 = nth xs 8 := rfl
theorem e_nth10 {x : Sl} {xs : List Sl} : nth (x :: xs) 10 = nth xs 9 := rfl
theorem e_nth11 {x : Sl} {xs : List Sl} : nth (x :: xs) 11 = nth xs 10 := rfl
theorem e_nth12 {x : Sl} {xs : List Sl} : nth (x :: xs) 12 = nth xs 11 := rfl
theorem e_nth13 {x : Sl} {xs : List Sl} : nth (x :: xs) 13 = nth xs 12 := rfl
theorem e_nth14 {x : Sl} {xs : List Sl} : nth (x :: xs) 14 = nth xs 13 := rfl
theorem e_nth15 {x : Sl} {xs : List Sl} : nth (x :: xs) 15 = nth xs 14 := rfl
theorem e_nth16 {x : Sl} {xs : List Sl} : nth (x :: xs) 16 = nth xs 15 := rfl
theorem e_nth17 {x : Sl} {xs : List Sl} : nth (x :: xs) 17 = nth xs 16 := rfl
theorem e_nth18 {x : Sl} {xs : List Sl} : nth (x :: xs) 18 = nth xs 17 := rfl
theorem e_nth19 {x : Sl} {xs : List Sl} : nth (x :: xs) 19 = nth xs 18 := rfl
theorem e_nth20 {x : Sl} {xs : List Sl} : nth (x :: xs) 20 = nth xs 19 := rfl
theorem e_nth21 {x : Sl} {xs : List Sl} : nth (x :: xs) 21 = nth xs 20 := rfl
theorem e_nth22 {x : Sl} {xs : List Sl} : nth (x :: xs) 22 = nth xs 21 := rfl
theorem e_nth23 {x : Sl} {xs : List Sl} : nth (x :: xs) 23 = nth xs 22 := rfl
theorem e_nth24 {x : Sl} {xs : List Sl} : nth (x :: xs) 24 = nth xs 23 := rfl
theorem e_nth25 {x : Sl} {xs : List Sl} : nth (x :: xs) 25 = nth xs 24 := rfl
theorem e_set0 {α : Type} {x y : α} {xs : List α} : List.set (x :: xs) 0 y = y :: xs := rfl
theorem e_set1 {α : Type} {x y : α} {xs : List α} : List.set (x :: xs) 1 y = x :: List.set xs 0 y := rfl
theorem e_set2 {α : Type} {x y : α} {xs : List α} : List.set (x :: xs) 2 y = x :: List.set xs 1 y := rfl
theorem e_set3 {α : Type} {x y : α} {xs : List α} : List.set (x :: xs) 3 y = x :: List.set xs 2 y := rfl
theorem e_set4 {α : Type} {x y : α} {xs : List α} : List.set (x :: xs) 4 y = x :: List.set xs 3 y := rfl
theorem e_set5 {α : Type} {x y : α} {xs : List α} : List.set (x :: xs) 5 y = x :: List.set xs 4 y := rfl
theorem e_set6 {α : Type} {x y : α} {xs : List α} : List.set (x :: xs) 6 y = x :: List.set xs 5 y := rfl
theorem e_set7 {α : Type} {x y : α} {xs : List α} : List.set (x :: xs) 7 y = x :: List.set xs 6 y := rfl
theorem e_set8 {α : Type} {x y : α} {xs : List α} : List.set (x :: xs) 8 y = x :: List.set xs 7 y := rfl
theorem e_set9 {α : Type} {x y : α} {xs : List α} : List.set (x :: xs) 9 y = x :: List.set xs 8 y := rfl
theorem e_set10 {α : Type} {x y : α} {xs : List α} : List.set (x :: xs) 10 y = x :: List.set xs 9 y := rfl
theorem e_set11 {α : Type} {x y : α} {xs : List α} : List.set (x :: xs) 11 y = x :: List.set xs 10 y := rfl
theorem e_set12 {α : Type} {x y : α} {xs : List α} : List.set (x :: xs) 12 y = x :: List.set xs 11 y := rfl
theorem e_set13 {α : Type} {x y : α} {xs : List α} : List.set (x :: xs) 13 y = x :: List.set xs 12 y := rfl
theorem e_set14 {α : Type} {x y : α} {xs : List α} : List.set (x :: xs) 14 y = x :: List.set xs 13 y := rfl
theorem e_set15 {α : Type} {x y : α} {xs : List α} : List.set (x :: xs) 15 y = x :: List.set xs 14 y := rfl
theorem e_set16 {α : Type} {x y : α} {xs : List α} : List.set (x :: xs) 16 y = x :: List.set xs 15 y := rfl
theorem e_set17 {α : Type} {x y : α} {xs : List α} : List.set (x :: xs) 17 y = x :: List.set xs 16 y := rfl
theorem e_set18 {α : Type} {x y : α} {xs : List α} : List.set (x :: xs) 18 y = x :: List.set xs 17 y := rfl
theorem e_set19 {α : Type} {x y : α} {xs : List α} : List.set (x :: xs) 19 y = x :: List.set xs 18 y := rfl
theorem e_set20 {α : Type} {x y : α} {xs : List α} : List.set (x :: xs) 20 y = x :: List.set xs 19 y := rfl
theorem e_set21 {α : Type} {x y : α} {xs : List α} : List.set (x :: xs) 21 y = x :: List.set xs 20 y := rfl
theorem e_set22 {α : Type} {x y : α} {xs : List α} : List.set (x :: xs) 22 y = x :: List.set xs 21 y := rfl
theorem e_set23 {α : Type} {x y : α} {xs : List α} : List.set (x :: xs) 23 y = x :: List.set xs 22 y := rfl
theorem e_set24 {α : Type} {x y : α} {xs : List α} : List.set (x :: xs) 24 y = x :: List.set xs 23 y := rfl
theorem e_set25 {α : Type} {x y : α} {xs : List α} : List.set (x :: xs) 25 y = x :: List.set xs 24 y := rfl
theorem e_look1 {d : D} : R.look (.sh d) = d := rfl
theorem e_look2 {d : OD} : R.look (.ow d) = d.d := rfl
theorem e_look3 {i : Nat} {d : OD} : R.look (.al i d) = d.d := rfl
theorem e_keep1 {P : D → Prop} {d : D} : R.keep P (.sh d) = P d := rfl
theorem e_keep2 {P : D → Prop} {d : OD} : R.keep P (.ow d) = P d.d := rfl
theorem e_ret1 {d : D} : R.ret (.sh d) = .sh d := rfl
theorem e_ret2 {d : OD} : R.ret (.ow d) = .ow d := rfl
theorem e_ret3 {i : Nat} {d : OD} : R.ret (.al i d) = .ow d := rfl
theorem e_od1 {xs : List D} : OD.d (.lst xs) = .lst xs := rfl
theorem e_od2 {xs : List (Key × D)} : OD.d (.dk xs) = .dk xs := rfl
theorem e_od3 {C : Addr} {xs : List (Str × D)} : OD.d (.obj C xs) = .obj C xs := rfl
theorem e_asB {P : Bool → Prop} {c : Bool} : asB P (.sh (.bl c)) = P c := rfl
theorem e_asL {P : List D → Prop} {c : List D} : asL P (.lst c) = P c := rfl
theorem e_asT {P : List D → Prop} {c : List D} : asT P (.tup c) = P c := rfl
theorem e_asS {P : List D → Prop} {c : Str} : asS P (.str c) = P (signs c) := rfl
theorem e_asI {P : Option Int → Prop} {c : Int} : asI P (.sh (.int c)) = P (some c) := rfl
theorem e_add1 {i j : Int} {P : R → Prop} : fAdd (.int i) (.int j) P = P (.sh (.int (i + j))) := rfl
theorem e_add2 {i j : Str} {P : R → Prop} : fAdd (.str i) (.str j) P = (i.length + j.length ≤ 1000000 ∧ P (.sh (.str (i ++ j)))) := rfl
theorem e_add3 {i j : List D} {P : R → Prop} : fAdd (.lst i) (.lst j) P = (i.length + j.length ≤ 1000000 ∧ P (.ow (.lst (i ++ j)))) := rfl
theorem e_add4 {i j : List D} {P : R → Prop} : fAdd (.tup i) (.tup j) P = (i ≠ [] ∧ j ≠ [] ∧ i.length + j.length ≤ 1000000 ∧ P (.sh (.tup (i ++ j)))) := rfl
theorem e_fSub {i j : Int} {P : R → Prop} : fSub (.int i) (.int j) P = P (.sh (.int (i - j))) := rfl
theorem e_fAnd {i j : Int} {P : R → Prop} : fAnd (.int i) (.int j) P = P (.sh (.int (Builtin.bitAnd i j))) := rfl
theorem e_fXor {i j : Int} {P : R → Prop} : fXor (.int i) (.int j) P = P (.sh (.int (Builtin.bitXor i j))) := rfl
theorem e_fMul {i j : Int} {P : R → Prop} : fMul (.int i) (.int j) P = (CMul i j ∧ P (.sh (.int (i * j)))) := rfl
theorem e_fMod {i j : Int} {P : R → Prop} : fMod (.int i) (.int j) P = (0 < j ∧ P (.sh (.int (i % j)))) := rfl
theorem e_fDiv {i j : Int} {P : R → Prop} : fDiv (.int i) (.int j) P = (CDiv i j ∧ P (.sh (.int (i / j)))) := rfl
theorem e_fPow {i j : Int} {P : R → Prop} : fPow (.int i) (.int j) P = (CPow i j ∧ P (.sh (.int (i ^ j.toNat)))) := rfl
theorem e_fLt {i j : Int} {P : R → Prop} : fLt (.int i) (.int j) P = P (.sh (.bl (decide (i < j)))) := rfl
theorem e_fLe {i j : Int} {P : R → Prop} : fLe (.int i) (.int j) P = P (.sh (.bl (decide (i ≤ j)))) := rfl
theorem e_fLeI {i j : Int} {P : R → Prop} : fLeI (.int i) (.int j) P = P (.sh (.bl (decide (i ≤ j)))) := rfl
theorem e_fGt {i j : Int} {P : R → Prop} : fGt (.int i) (.int j) P = P (.sh (.bl (decide (j < i)))) := rfl
theorem e_fGe {i j : Int} {P : R → Prop} : fGe (.int i) (.int j) P = P (.sh (.bl (decide (j ≤ i)))) := rfl
theorem e_ltS {i j : Str} {P : R → Prop} : fLt (.str i) (.str j) P = P (.sh (.bl (decide (i.cps.toList < j.cps.toList)))) := rfl
theorem e_eq_int {i j : Int} {P : R → Prop} : fEq (.int i) (.int j) P = P (.sh (.bl (decide (i = j)))) := rfl
theorem e_ne_int {i j : Int} {P : R → Prop} : fNe (.int i) (.int j) P = P (.sh (.bl (!decide (i = j)))) := rfl
theorem e_eq_str {i j : Str} {P : R → Prop} : fEq (.str i) (.str j) P = P (.sh (.bl (decide (i = j)))) := rfl
theorem e_ne_str {i j : Str} {P : R → Prop} : fNe (.str i) (.str j) P = P (.sh (.bl (!decide (i = j)))) := rfl
theorem e_eq_bl {i j : Bool} {P : R → Prop} : fEq (.bl i) (.bl j) P = P (.sh (.bl (decide (i = j)))) := rfl
theorem e_ne_bl {i j : Bool} {P : R → Prop} : fNe (.bl i) (.bl j) P = P (.sh (.bl (!decide (i = j)))) := rfl
theorem e_eqx91 {i : Int} {s : Str} {P : R → Prop} : fEq (.non) (.non) P = P (.sh (.bl true)) := rfl
theorem e_nex92 {i : Int} {s : Str} {P : R → Prop} : fNe (.non) (.non) P = P (.sh (.bl (!true))) := rfl
theorem e_eqx93 {i : Int} {s : Str} {P : R → Prop} : fEq (.non) (.int i) P = P (.sh (.bl false)) := rfl
theorem e_nex94 {i : Int} {s : Str} {P : R → Prop} : fNe (.non) (.int i) P = P (.sh (.bl (!false))) := rfl
theorem e_eqx95 {i : Int} {s : Str} {P : R → Prop} : fEq (.int i) (.non) P = P (.sh (.bl false)) := rfl
theorem e_nex96 {i : Int} {s : Str} {P : R → Prop} : fNe (.int i) (.non) P = P (.sh (.bl (!false))) := rfl
theorem e_eqx97 {i : Int} {s : Str} {P : R → Prop} : fEq (.non) (.str s) P = P (.sh (.bl false)) := rfl
theorem e_nex98 {i : Int} {s : Str} {P : R → Prop} : fNe (.non) (.str s) P = P (.sh (.bl (!false))) := rfl
theorem e_eqx99 {i : Int} {s : Str} {P : R → Prop} : fEq (.str s) (.non) P = P (.sh (.bl false)) := rfl
theorem e_nex100 {i : Int} {s : Str} {P : R → Prop} : fNe (.str s) (.non) P = P (.sh (.bl (!false))) := rfl
theorem e_is {d : D} {P : R → Prop} : fIs d .non P = P (.sh (.bl (isN d))) := rfl
theorem e_isnot {d : D} {P : R → Prop} : fIsNot d .non P = P (.sh (.bl (!isN d))) := rfl
theorem e_isn0  : isN (.non) = true := rfl
theorem e_isn1 {c : Bool} : isN (.bl c) = false := rfl
theorem e_isn2 {c : Int} : isN (.int c) = false := rfl
theorem e_isn3 {c : Str} : isN (.str c) = false := rfl
theorem e_isn4 {c : List D} : isN (.lst c) = false := rfl
theorem e_isn5 {c : List D} : isN (.tup c) = false := rfl
theorem e_isn6 {c : List (Key × D)} : isN (.dk c) = false := rfl
theorem e_isn7 {C : Addr} {c : List (Str × D)} : isN (.obj C c) = false := rfl
theorem e_isn8 {C : Addr} : isN (.fn C) = false := rfl
theorem e_fIn1 {x : D} {xs : List D} {P : R → Prop} : fIn x (.lst xs) P = (flatD x = true ∧ xs.all flatD = true ∧ P (.sh (.bl (inD x xs)))) := rfl
theorem e_fIn2 {x : D} {xs : List D} {P : R → Prop} : fIn x (.tup xs) P = (flatD x = true ∧ xs.all flatD = true ∧ P (.sh (.bl (inD x xs)))) := rfl
theorem e_fIn3 {x : D} {z : Str} {P : R → Prop} : fIn x (.str z) P = (∃ c, x = .str (sign c) ∧ P (.sh (.bl (decide (c ∈ z.cps.toList))))) := rfl
theorem e_fNotIn1 {x : D} {xs : List D} {P : R → Prop} : fNotIn x (.lst xs) P = (flatD x = true ∧ xs.all flatD = true ∧ P (.sh (.bl (!inD x xs)))) := rfl
theorem e_fNotIn2 {x : D} {xs : List D} {P : R → Prop} : fNotIn x (.tup xs) P = (flatD x = true ∧ xs.all flatD = true ∧ P (.sh (.bl (!inD x xs)))) := rfl
theorem e_fNotIn3 {x : D} {z : Str} {P : R → Prop} : fNotIn x (.str z) P = (∃ c, x = .str (sign c) ∧ P (.sh (.bl (!decide (c ∈ z.cps.toList))))) := rfl
theorem e_sl1 {xs : List D} {lo hi : Option Int} {P : R → Prop} : fSl (.lst xs) lo hi P = P (.ow (.lst (cutD xs lo hi))) := rfl
theorem e_sl2 {xs : Str} {lo hi : Option Int} {P : R → Prop} : fSl (.str xs) lo hi P = (xs.length ≤ 1000000 ∧ P (.sh (.str (cutS xs lo hi)))) := rfl
theorem e_sl3 {xs : List D} {lo hi : Option Int} {P : R → Prop} : fSl (.tup xs) lo hi P = (¬ (HT.sIx xs.length 0 lo = 0 ∧ HT.sIx xs.length xs.length hi = xs.length) ∧ P (.sh (.tup (cutD xs lo hi)))) := rfl
theorem e_len1 {xs : List D} {P : R → Prop} : fLen (.lst xs) P = P (.sh (.int xs.length)) := rfl
theorem e_len2 {xs : List D} {P : R → Prop} : fLen (.tup xs) P = P (.sh (.int xs.length)) := rfl
theorem e_len3 {xs : Str} {P : R → Prop} : fLen (.str xs) P = (xs.length ≤ 1000000 ∧ P (.sh (.int xs.length))) := rfl
theorem e_int1 {i : Int} {P : R → Prop} : fInt (.int i) P = P (.sh (.int i)) := rfl
theorem e_int2 {c : Bool} {P : R → Prop} : fInt (.bl c) P = P (.sh (.int (if c then 1 else 0))) := rfl
theorem e_list1 {xs : List D} {P : R → Prop} : fList2 (.lst xs) P = P (.ow (.lst xs)) := rfl
theorem e_list2 {xs : List D} {P : R → Prop} : fList2 (.tup xs) P = P (.ow (.lst xs)) := rfl
theorem e_list3 {xs : Str} {P : R → Prop} : fList2 (.str xs) P = (xs.length ≤ 1000000 ∧ P (.ow (.lst (signs xs)))) := rfl
theorem e_tru1 {P : Bool → Prop} : truD .non P = P false := rfl
theorem e_tru2 {c : Bool} {P : Bool → Prop} : truD (.bl c) P = P c := rfl
theorem e_tru3 {c : Int} {P : Bool → Prop} : truD (.int c) P = P (c != 0) := rfl
theorem e_tru4 {c : Str} {P : Bool → Prop} : truD (.str c) P = (c.length ≤ 1000000 ∧ P ((c.length : Int) != 0)) := rfl
theorem e_tru5 {c : List D} {P : Bool → Prop} : truD (.lst c) P = P (!c.isEmpty) := rfl
theorem e_tru6 {c : List D} {P : Bool → Prop} : truD (.tup c) P = P (!c.isEmpty) := rfl
theorem e_ix_lst0 {a0 : D} {l : List D} {P : R → Prop} : fIx (.lst (a0 :: l)) (.int 0) P = P (.sh a0) := rfl
theorem e_ix_tup0 {a0 : D} {l : List D} {P : R → Prop} : fIx (.tup (a0 :: l)) (.int 0) P = P (.sh a0) := rfl
theorem e_ix_lst1 {a0 a1 : D} {l : List D} {P : R → Prop} : fIx (.lst (a0 :: a1 :: l)) (.int 1) P = P (.sh a1) := rfl
theorem e_ix_tup1 {a0 a1 : D} {l : List D} {P : R → Prop} : fIx (.tup (a0 :: a1 :: l)) (.int 1) P = P (.sh a1) := rfl
theorem e_ix_lst2 {a0 a1 a2 : D} {l : List D} {P : R → Prop} : fIx (.lst (a0 :: a1 :: a2 :: l)) (.int 2) P = P (.sh a2) := rfl
theorem e_ix_tup2 {a0 a1 a2 : D} {l : List D} {P : R → Prop} : fIx (.tup (a0 :: a1 :: a2 :: l)) (.int 2) P = P (.sh a2) := rfl
theorem e_ix_lst3 {a0 a1 a2 a3 : D} {l : List D} {P : R → Prop} : fIx (.lst (a0 :: a1 :: a2 :: a3 :: l)) (.int 3) P = P (.sh a3) := rfl
theorem e_ix_tup3 {a0 a1 a2 a3 : D} {l : List D} {P : R → Prop} : fIx (.tup (a0 :: a1 :: a2 :: a3 :: l)) (.int 3) P = P (.sh a3) := rfl
theorem e_ix_lst4 {a0 a1 a2 a3 a4 : D} {l : List D} {P : R → Prop} : fIx (.lst (a0 :: a1 :: a2 :: a3 :: a4 :: l)) (.int 4) P = P (.sh a4) := rfl
theorem e_ix_tup4 {a0 a1 a2 a3 a4 : D} {l : List D} {P : R → Prop} : fIx (.tup (a0 :: a1 :: a2 :: a3 :: a4 :: l)) (.int 4) P = P (.sh a4) := rfl
theorem e_ix_lst5 {a0 a1 a2 a3 a4 a5 : D} {l : List D} {P : R → Prop} : fIx (.lst (a0 :: a1 :: a2 :: a3 :: a4 :: a5 :: l)) (.int 5) P = P (.sh a5) := rfl
theorem e_ix_tup5 {a0 a1 a2 a3 a4 a5 : D} {l : List D} {P : R → Prop} : fIx (.tup (a0 :: a1 :: a2 :: a3 :: a4 :: a5 :: l)) (.int 5) P = P (.sh a5) := rfl
theorem e_ix_lst6 {a0 a1 a2 a3 a4 a5 a6 : D} {l : List D} {P : R → Prop} : fIx (.lst (a0 :: a1 :: a2 :: a3 :: a4 :: a5 :: a6 :: l)) (.int 6) P = P (.sh a6) := rfl
theorem e_ix_tup6 {a0 a1 a2 a3 a4 a5 a6 : D} {l : List D} {P : R → Prop} : fIx (.tup (a0 :: a1 :: a2 :: a3 :: a4 :: a5 :: a6 :: l)) (.int 6) P = P (.sh a6) := rfl
theorem e_ix_lst7 {a0 a1 a2 a3 a4 a5 a6 a7 : D} {l : List D} {P : R → Prop} : fIx (.lst (a0 :: a1 :: a2 :: a3 :: a4 :: a5 :: a6 :: a7 :: l)) (.int 7) P = P (.sh a7) := rfl
theorem e_ix_tup7 {a0 a1 a2 a3 a4 a5 a6 a7 : D} {l : List D} {P : R → Prop} : fIx (.tup (a0 :: a1 :: a2 :: a3 :: a4 :: a5 :: a6 :: a7 :: l)) (.int 7) P = P (.sh a7) := rfl
theorem e_gtp {gs : DGs} {ds : List D} {e : List Sl} {P : List Sl → Prop} : gTp gs (.tup ds) e P = gs ds e P := rfl
theorem e_gsc {g : DG} {gs : DGs} {d : D} {ds : List D} {e : List Sl} {P : List Sl → Prop} : gsCons g gs (d :: ds) e P = g d e fun e' => gs ds e' P := rfl
theorem e_gsn {ds : List D} {e : List Sl} {P : List Sl → Prop} : gsNil ds e P = (ds = [] ∧ P e) := rfl
theorem e_into1 {own : Bool} {P : Sl → Prop} {d : D} : R.into own P (.sh d) = (own = false ∧ P (.sh d)) := rfl
theorem e_into2 {P : Sl → Prop} {o : OD} : R.into true P (.ow o) = P (.own none o) := rfl
theorem e_into3 {P : Sl → Prop} {o : OD} : R.into false P (.ow o) = P (.sh o.d) := rfl
theorem e_ty0  : tyD (.non) = some .non := rfl
theorem e_ty1 {c : Bool} : tyD (.bl c) = some .bl := rfl
theorem e_ty2 {c : Int} : tyD (.int c) = some .int := rfl
theorem e_ty3 {c : Str} : tyD (.str c) = some .str := rfl
theorem e_ty4 {c : List D} : tyD (.lst c) = some .lst := rfl
theorem e_ty5 {c : List D} : tyD (.tup c) = some .tup := rfl
theorem e_ty6 {c : List (Key × D)} : tyD (.dk c) = some .dk := rfl
theorem e_tyis_non_non  : TyE.is .non .non = true := rfl
theorem e_tyis_non_bl  : TyE.is .non .bl = false := rfl
theorem e_tyis_non_int  : TyE.is .non .int = false := rfl
theorem e_tyis_non_str  : TyE.is .non .str = false := rfl
theorem e_tyis_non_lst  : TyE.is .non .lst = false := rfl
theorem e_tyis_non_tup  : TyE.is .non .tup = false := rfl
theorem e_tyis_non_dk  : TyE.is .non .dk = false := rfl
theorem e_tyis_bl_non  : TyE.is .bl .non = false := rfl
theorem e_tyis_bl_bl  : TyE.is .bl .bl = true := rfl
theorem e_tyis_bl_int  : TyE.is .bl .int = true := rfl
theorem e_tyis_bl_str  : TyE.is .bl .str = false := rfl
theorem e_tyis_bl_lst  : TyE.is .bl .lst = false := rfl
theorem e_tyis_bl_tup  : TyE.is .bl .tup = false := rfl
theorem e_tyis_bl_dk  : TyE.is .bl .dk = false := rfl
theorem e_tyis_int_non  : TyE.is .int .non = false := rfl
theorem e_tyis_int_bl  : TyE.is .int .bl = false := rfl
theorem e_tyis_int_int  : TyE.is .int .int = true := rfl
theorem e_tyis_int_str  : TyE.is .int .str = false := rfl
theorem e_tyis_int_lst  : TyE.is .int .lst = false := rfl
theorem e_tyis_int_tup  : TyE.is .int .tup = false := rfl
theorem e_tyis_int_dk  : TyE.is .int .dk = false := rfl
theorem e_tyis_str_non  : TyE.is .str .non = false := rfl
theorem e_tyis_str_bl  : TyE.is .str .bl = false := rfl
theorem e_tyis_str_int  : TyE.is .str .int = false := rfl
theorem e_tyis_str_str  : TyE.is .str .str = true := rfl
theorem e_tyis_str_lst  : TyE.is .str .lst = false := rfl
theorem e_tyis_str_tup  : TyE.is .str .tup = false := rfl
theorem e_tyis_str_dk  : TyE.is .str .dk = false := rfl
theorem e_tyis_lst_non  : TyE.is .lst .non = false := rfl
theorem e_tyis_lst_bl  : TyE.is .lst .bl = false := rfl
theorem e_tyis_lst_int  : TyE.is .lst .int = false := rfl
theorem e_tyis_lst_str  : TyE.is .lst .str = false := rfl
theorem e_tyis_lst_lst  : TyE.is .lst .lst = true := rfl
theorem e_tyis_lst_tup  : TyE.is .lst .tup = false := rfl
theorem e_tyis_lst_dk  : TyE.is .lst .dk = false := rfl
theorem e_tyis_tup_non  : TyE.is .tup .non = false := rfl
theorem e_tyis_tup_bl  : TyE.is .tup .bl = false := rfl
theorem e_tyis_tup_int  : TyE.is .tup .int = false := rfl
theorem e_tyis_tup_str  : TyE.is .tup .str = false := rfl
theorem e_tyis_tup_lst  : TyE.is .tup .lst = false := rfl
theorem e_tyis_tup_tup  : TyE.is .tup .tup = true := rfl
theorem e_tyis_tup_dk  : TyE.is .tup .dk = false := rfl
theorem e_tyis_dk_non  : TyE.is .dk .non = false := rfl
theorem e_tyis_dk_bl  : TyE.is .dk .bl = false := rfl
theorem e_tyis_dk_int  : TyE.is .dk .int = false := rfl
theorem e_tyis_dk_str  : TyE.is .dk .str = false := rfl
theorem e_tyis_dk_lst  : TyE.is .dk .lst = false := rfl
theorem e_tyis_dk_tup  : TyE.is .dk .tup = false := rfl
theorem e_tyis_dk_dk  : TyE.is .dk .dk = true := rfl
theorem e_orF {α : Type} {P : α → Prop} {x : α} : orF P (some x) = P x := rfl
theorem e_itet {A B : Prop} : (if true = true then A else B) = A := rfl
theorem e_itef {A B : Prop} : (if false = true then A else B) = B := rfl
theorem e_dtt : decide (true = true) = true := rfl
theorem e_dff : decide (false = false) = true := rfl
theorem e_dtf : decide (true = false) = false := rfl
theorem e_dft : decide (false = true) = false := rfl
theorem e_nt : (!true) = false := rfl
theorem e_nf : (!false) = true := rfl
theorem e_off : (false || false) = false := rfl
theorem e_oft : (false || true) = true := rfl
theorem e_otf : (true || false) = true := rfl
theorem e_ott : (true || true) = true := rfl
theorem e_zip1 {P : List D → Prop} {xs ys : List D} : zipD P [.lst xs, .lst ys] = P (zips xs ys) := rfl
theorem e_zip2 {P : List D → Prop} {xs ys : List D} : zipD P [.tup xs, .tup ys] = P (zips xs ys) := rfl
theorem e_slv1 {i : Nat} {P : R → Prop} {d : D} : slV i P (.sh d) = P (.sh d) := rfl
theorem e_slv2 {i : Nat} {P : R → Prop} {q : Option Addr} {o : OD} : slV i P (.own q o) = P (.al i o) := rfl
end DL
namespace DL
open PySem L2 PyProof.Rows
/-! ### plain lemmas -/
theorem perm_pop {α : Type} : ∀ {l : List α} {n : Nat} {x : α}, l[n]? = some x → (x :: l.eraseIdx n).Perm l
  | [], n, x, h => by simp at h
  | a :: l, 0, x, h => by
    cases h
    exact List.Perm.refl _
  | a :: l, n + 1, x, h => by
    have q := perm_pop (l := l) (n := n) (x := x) (by simpa using h)
    rw [List.eraseIdx_cons_succ]
    exact (List.Perm.swap a x _).trans (q.cons a)
/-- texts by their codes -/
def S (l : List Nat) : Str := ⟨l.toArray⟩
theorem S_len (l : List Nat) : (S l).length = l.length := by simp [S, Str.length]
theorem S_of (s : Str) : s = S s.cps.toList := rfl
theorem S_app (l m : List Nat) : S l ++ S m = S (l ++ m) := by
  show Str.append (S l) (S m) = _
  unfold S
  simp [Str.append]
theorem S_inj {l m : List Nat} : S l = S m ↔ l = m := by
  constructor
  · intro h
    have := congrArg (fun s : Str => s.cps.toList) h
    exact this
  · intro h; rw [h]
/-- plain data of so much depth -/
def simN : Nat → D → Bool
  | n + 1, .lst xs => decide (xs.length ≤ 100000) && xs.all (simN n)
  | n + 1, .tup xs => decide (xs.length ≤ 100000) && xs.all (simN n)
  | _, d => flatD d
theorem simN_lst {n : Nat} {xs : List D} (h : simN n (.lst xs) = true) : ∃ m, n = m + 1 ∧ xs.length ≤ 100000 ∧ ∀ x ∈ xs, simN m x = true := by
  cases n with
  | zero => cases h
  | succ n =>
    have h' : (decide (xs.length ≤ 100000) && xs.all (simN n)) = true := h
    rw [Bool.and_eq_true, decide_eq_true_eq, List.all_eq_true] at h'
    exact ⟨n, rfl, h'.1, h'.2⟩
theorem simN_tup {n : Nat} {xs : List D} (h : simN n (.tup xs) = true) : ∃ m, n = m + 1 ∧ xs.length ≤ 100000 ∧ ∀ x ∈ xs, simN m x = true := by
  cases n with
  | zero => cases h
  | succ n =>
    have h' : (decide (xs.length ≤ 100000) && xs.all (simN n)) = true := h
    rw [Bool.and_eq_true, decide_eq_true_eq, List.all_eq_true] at h'
    exact ⟨n, rfl, h'.1, h'.2⟩
theorem simN_mk {n : Nat} {xs : List D} (h : xs.length ≤ 100000) (k : ∀ x ∈ xs, simN n x = true) : simN (n + 1) (.lst xs) = true := by
  show (decide (xs.length ≤ 100000) && xs.all (simN n)) = true
  rw [Bool.and_eq_true, decide_eq_true_eq, List.all_eq_true]
  exact ⟨h, k⟩
theorem zips_self {xs : List D} {i : Nat} {z : D} (h : (zips xs xs)[i]? = some z) : ∃ x, x ∈ xs ∧ z = .tup [x, x] := by
  obtain ⟨x, y, h1, h2, h3⟩ := zips_get h
  rw [h1] at h2
  cases h2
  exact ⟨x, List.mem_of_getElem? h1, h3⟩
/-- a def that is asked nothing -/
theorem known_none {K : PySem.W.Frag} {P : Program} {w : World} {mg : Str → Option Value} {base : Heap} {x : Str} {st : Stmt} {ps : List Str} (Hr : Here K mg x st ps) : Known P w K mg base x 0 ps (spN K fun _ _ => False) := by
  obtain ⟨f, fd, F, hm, hbi⟩ := Hr.ex
  exact ⟨f, fd, ⟨fun vs H Q E ⟨_, _, _, _, _, h, _⟩ => h.elim, fun A outer s H args us vs Q E _ _ _ _ ⟨_, _, _, _, _, h, _⟩ => h.elim⟩, hm, F.kp, hbi⟩
end DL
namespace DL
open PySem L2 PyProof.Rows
/-! ### texts as lists of codes -/
def chs (l : List Nat) : List D := l.map fun c => .str (sign c)
theorem signs_S (l : List Nat) : signs (S l) = chs l := rfl
theorem cutD_to (l : List D) (k : Nat) : cutD l none (some (k : Int)) = l.take k := by
  unfold cutD
  rw [HT.sIx_none, HT.sIx_nat, List.drop_zero, Nat.sub_zero, Nat.min_comm, List.take_eq_take_iff]
  omega
theorem sumlen_S (ls : List (List Nat)) : ((ls.map S).map (·.length)).sum = ls.flatten.length := by
  induction ls with
  | nil => rfl
  | cons l ls ih => rw [List.map_cons, List.map_cons, List.sum_cons, ih, S_len, List.flatten_cons, List.length_append]
theorem S_nil_app (s : Str) : s ++ S [] = s := by
  rw [S_of s, S_app, List.append_nil]
theorem join_S (ls : List (List Nat)) : Txt.join (S []) (ls.map S) = S ls.flatten := by
  rw [TL.join_eq]
  induction ls with
  | nil => rfl
  | cons l ls ih =>
    cases ls with
    | nil =>
      show S l = _
      simp
    | cons m r =>
      show S l ++ S [] ++ Str.join (S []) ((m :: r).map S) = _
      rw [ih, S_nil_app, S_app]
      rfl
theorem map_str_S (ls : List (List Nat)) : (ls.map S).map D.str = ls.map fun l => D.str (S l) := by rw [List.map_map]; rfl
theorem fJoin_S {ls : List (List Nat)} {P : R → Prop} (h : ls.flatten.length ≤ 1000000) (p : P (.sh (.str (S ls.flatten)))) : fJoin (.str (S [])) (.lst (ls.map fun l => D.str (S l))) P := by
  refine ⟨S [], ls.map S, rfl, .inl (by rw [map_str_S]), ?_, ?_⟩
  · rw [sumlen_S, S_len]
    simpa using h
  · rw [join_S]
    exact p
theorem flatten_one : ∀ l : List Nat, (l.map fun c => [c]).flatten = l
  | [] => rfl
  | c :: l => by rw [List.map_cons, List.flatten_cons, flatten_one l]; rfl
theorem fJoin_chs {l : List Nat} {P : R → Prop} (h : l.length ≤ 1000000) (p : P (.sh (.str (S l)))) : fJoin (.str (S [])) (.lst (chs l)) P := by
  have e := fJoin_S (ls := l.map fun c => [c]) (P := P) (by rw [flatten_one]; exact h) (by rw [flatten_one]; exact p)
  rw [List.map_map] at e
  exact e
theorem nums_get' {n i : Nat} {x : D} (h : (nums 0 n)[i]? = some x) : i < n ∧ x = .int (i : Int) := by
  obtain ⟨h1, h2⟩ := nums_get h
  exact ⟨h1, by simpa using h2⟩
/-! ### lists that may be compared -/
def okE (d : D) : Bool := match d with
  | .str s => s.cps.all (· < 0x110000)
  | d => flatD d
theorem toPyL_ok : ∀ {xs : List D}, (∀ x ∈ xs, okE x = true) → pureL xs = true ∧ PyData.canLayAll0 (toPyL xs) = true ∧ PyData.depthAll (toPyL xs) = 0
  | [], _ => ⟨rfl, rfl, rfl⟩
  | x :: xs, h => by
    obtain ⟨h1, h2, h3⟩ := toPyL_ok (xs := xs) fun y hy => h y (List.mem_cons_of_mem _ hy)
    have hx := h x List.mem_cons_self
    have e : pure? x = true ∧ PyData.canLay0 (toPy x) = true ∧ PyData.depth (toPy x) = 0 := by
      cases x <;> first | exact ⟨rfl, rfl, rfl⟩ | exact ⟨rfl, hx, rfl⟩ | cases hx
    refine ⟨?_, ?_, ?_⟩
    · show (pure? x && pureL xs) = true
      rw [e.1, h1]; rfl
    · show (PyData.canLay0 (toPy x) && PyData.canLayAll0 (toPyL xs)) = true
      rw [e.2.1, h2]; rfl
    · show max (PyData.depth (toPy x)) (PyData.depthAll (toPyL xs)) = 0
      rw [e.2.2, h3]; rfl
theorem okPy_lst {xs : List D} (h : ∀ x ∈ xs, okE x = true) : okPy (.lst xs) := by
  obtain ⟨h1, h2, h3⟩ := toPyL_ok h
  refine ⟨h1, ?_⟩
  show (PyData.canLayAll0 (toPyL xs) && decide (PyData.depthAll (toPyL xs) + 1 ≤ 64)) = true
  rw [h2, h3]; rfl
theorem eqv_nil (xs : List D) : PyData.eqv (toPy (.lst xs)) (toPy (.lst [])) = xs.isEmpty := by cases xs <;> rfl
theorem ne_nil {xs : List D} {P : R → Prop} (h : ∀ x ∈ xs, okE x = true) (p : P (.sh (.bl (!xs.isEmpty)))) : fNe (.lst xs) (.lst []) P := by
  refine ⟨okPy_lst h, okPy_lst (by simp), ?_⟩
  rw [eqv_nil]
  exact p
theorem isEmpty_snoc {α : Type} (xs : List α) (y : α) : (xs ++ [y]).isEmpty = false := by cases xs <;> rfl
theorem ints_ok {l : List Int} : ∀ x ∈ l.map D.int, okE x = true := by
  intro x hx
  obtain ⟨c, hc, rfl⟩ := List.mem_map.mp hx
  rfl
end DL
namespace DL
open PySem L2 PyProof.Rows
/-! ### defs with *args -/
section
variable {X : Cx} {b : Bg} {K : PySem.W.Frag}
/-- a def that stands at its name, told by its positional arguments -/
structure KnownR (P : Program) (w : World) (K : PySem.W.Frag) (mg : Str → Option Value) (base : Heap) (x : Str) (k : Nat) (sp : Sp) : Prop where
  ex : ∃ f, FnR P w K mg base CX0 k f sp ∧ mg x = some (.ref f) ∧ PySem.W.keepIn K (.ref f) = true
theorem KnownR.mono {P : Program} {w : World} {mg : Str → Option Value} {base : Heap} {x : Str} {k k' : Nat} {sp : Sp} (h : KnownR P w K mg base x k sp) (hk : k ≤ k') : KnownR P w K mg base x k' sp := by
  obtain ⟨f, F, h1, h2⟩ := h
  exact ⟨f, F.mono hk, h1, h2⟩
section
variable {CX : CXT} {k : Nat} {f : Addr} {sp : Sp} {E : XK} {x : Str} {p pos : Pos}
end
section
variable {P : Program} {w : World} {mg : Str → Option Value} {base : Heap}
end
end
end DL
namespace DL
open PySem L2 PyProof.Rows
section
variable {X : Cx} {b : Bg} {K : PySem.W.Frag}
/-! ### z[::-1] of a text -/
def revS (z : Str) : Str := ⟨z.cps.toList.reverse.toArray⟩
def uRevS (u : DE) : DE := fun e P => u e fun r => ∃ z : Str, r.look = .str z ∧ z.length ≤ 1000000 ∧ P (.sh (.str (revS z)))
/-- a row of targets from a list -/
def gTpL (gs : DGs) : DG := fun d e P => match d with
  | .lst ds => gs ds e P
  | _ => False
theorem e_gtpl {gs : DGs} {ds : List D} {e : List Sl} {P : List Sl → Prop} : gTpL gs (.lst ds) e P = gs ds e P := rfl
/-- a def of the text stands at its name, its parameters unsaid -/
structure HereS (K : PySem.W.Frag) (mg : Str → Option Value) (x : Str) (st : Stmt) : Prop where
  ex : ∃ f fd, Fun K x x st f fd ∧ mg x = some (.ref f)
end
end DL
namespace DL
open PySem L2 PyProof.Rows
/-! ### lists of texts -/
def ws (ls : List (List Nat)) : List D := ls.map fun l => .str (S l)
end DL
/-! sets of numbers and texts: what is in them, in the order of their coming -/
namespace SM
open PySem PyProof.Rows L2
def keyAt (e : Int × Value) : Key := match e.2 with
  | .int k _ => .inl k
  | .str z _ => .inr z
  | _ => .inl 0
def OkE (w : World) (e : Int × Value) : Prop := ∃ k : Key, keyIs k e.2 = true ∧ e.1 = keyH w k
/-- a set's parts -/
structure Pt (w : World) (L : List Key) (es : Array (Int × Value)) (t : SetTable) : Prop where
  ok : ∀ e ∈ es.toList, OkE w e
  pm : (es.toList.map keyAt).Perm L
  nd : L.Nodup
  sz : es.size < scanBound
  fit : t.fits es.size = true
  ris : Ris t.place.toList
  led : w.params.followText "set-order" = true ∨ t.led = true
def SetM (w : World) (h : Heap) (a : Addr) (L : List Key) : Prop := ∃ o es ep t, h.get? a = some o ∧ o.ExactSet ∧ o.data = .set es ep t ∧ Pt w L es t
section
variable {P : Program} {w : World} {A : Around} {E : Value → Shared → Prop} {s : Shared} {a : Addr} {L : List Key}
theorem Pt.len {es : Array (Int × Value)} {t : SetTable} (p : Pt w L es t) : L.length = es.size := by
  have := p.pm.length_eq
  rw [List.length_map, Array.length_toList] at this
  exact this.symm
theorem SetM.keep {h h' : Heap} (R : SetM w h a L) (k : ∀ o, h.get? a = some o → h'.get? a = some o) : SetM w h' a L := by
  obtain ⟨o, es, ep, t, ho, r⟩ := R
  exact ⟨o, es, ep, t, k o ho, r⟩
open Classical in
/-! ### the keys met so far; set(xs) -/
abbrev e0 (w : World) : Obj := { cls := .type "set", dict := none, data := .set #[] 0 (.fresh 0 0 (!w.params.followText "set-order")) }
/-! ### sorted(set) -/
end
/-! ### over the abstract heap -/
section
variable {X : Cx}
end
end SM
namespace DL
open PySem L2 PyProof.Rows
/-! ### sorted -/
section
variable {X : Cx} {b : Bg} {K : PySem.W.Frag}
theorem repL_strs {G : Hp} : ∀ {zs : List Str} {vs : List V}, RepL K G (zs.map D.str) vs → vs = zs.map V.str
  | [], vs, h => h
  | z :: zs, vs, ⟨v, r, e, hv, hr⟩ => by
    subst e
    cases hv
    rw [repL_strs hr]
    rfl
theorem repL_ints {G : Hp} : ∀ {zs : List Int} {vs : List V}, RepL K G (zs.map D.int) vs → vs = zs.map V.int
  | [], vs, h => h
  | z :: zs, vs, ⟨v, r, e, hv, hr⟩ => by
    subst e
    cases hv
    rw [repL_ints hr]
    rfl
theorem repL_strs' {G : Hp} (zs : List Str) : RepL K G (zs.map D.str) (zs.map V.str) := repL_map (f := D.str) (g := V.str) (fun _ => rfl) zs
theorem repL_ints' {G : Hp} (zs : List Int) : RepL K G (zs.map D.int) (zs.map V.int) := repL_map (f := D.int) (g := V.int) (fun _ => rfl) zs
theorem repK_keys {G : Hp} : ∀ {kvs : List (Key × D)} {vs : List (Key × V)}, RepK K G kvs vs → vs.map (·.1) = kvs.map (·.1)
  | [], vs, h => by rw [show vs = [] from h]; rfl
  | (k, d) :: kvs, vs, ⟨v, r, e, hv, hr⟩ => by
    subst e
    rw [List.map_cons, List.map_cons, repK_keys hr]
/-- the numbers in order, the texts in order -/
def ordI (ns : List Int) (P : R → Prop) : Prop := ∀ ys : List Int, ys.Perm ns → ys.Pairwise (· ≤ ·) → P (.ow (.lst (ys.map .int)))
def ordS (zs : List Str) (P : R → Prop) : Prop := ∀ ys : List Str, ys.Perm zs → sortedS ys = true → P (.ow (.lst (ys.map .str)))
/-- sorted(xs) of a list of numbers, of texts; of a dict with such keys -/
def fSorted (d : D) (P : R → Prop) : Prop := match d with
  | .lst xs => (∃ ns : List Int, xs = ns.map .int ∧ ordI ns P) ∨ (∃ zs : List Str, xs = zs.map .str ∧ zs.length < 64 ∧ ordS zs P)
  | .dk kvs => (∃ ns : List Int, kvs.map (·.1) = ns.map Sum.inl ∧ ns.length < 64 ∧ ordI ns P) ∨ (∃ zs : List Str, kvs.map (·.1) = zs.map Sum.inr ∧ zs.length < 64 ∧ ordS zs P)
  | _ => False
def rSrt (K : PySem.W.Frag) : List V → Hp → VK → Prop := fun xs H Q => ((rSortedI K xs H Q ∨ rSortedS K xs H Q) ∨
  (fun xs H Q => ∃ (a : Addr) (kvs : List (Key × V)) (ks : List Str), xs = [.ref a] ∧ Rd H a (.dK kvs) ∧ kvs.map (·.1) = ks.map Sum.inr ∧ ks.length < 64 ∧ ∀ ys p, ys.Perm ks → sortedS ys = true → H p = none → Q (.ref p) (upd H p (.lst (ys.map V.str)))) xs H Q) ∨
  (fun xs H Q => ∃ (a : Addr) (kvs : List (Key × V)) (ks : List Int), xs = [.ref a] ∧ Rd H a (.dK kvs) ∧ kvs.map (·.1) = ks.map Sum.inl ∧ ks.length < 64 ∧ ∀ (ys : List Int) (p : Addr), ys.Perm ks → ys.Pairwise (· ≤ ·) → H p = none → Q (.ref p) (upd H p (.lst (ys.map V.int)))) xs H Q
theorem cr_srt (hc : X.calm = true) : CallR X (.builtin "sorted") (rSrt X.K) := callR_or (callR_or (callR_or cr_sortedI cr_sortedS) (call_sortedD hc)) (call_sortedDI hc)
theorem lc_sorted : LC K (rSrt K) fSorted := by
  intro b L G0 H0 G H σ e d x P Q g h hf k
  unfold fSorted at hf
  split at hf
  · obtain ⟨a, vs, rfl, ha, hr⟩ := h
    rcases hf with ⟨ns, rfl, q⟩ | ⟨zs, rfl, hl, q⟩
    · rw [repL_ints hr] at ha
      exact .inl (.inl (.inl ⟨a, ns, rfl, SqL.of ha, fun ys p pm so np => g.newL (repL_ints' ys) (q ys pm so) k p np⟩))
    · rw [repL_strs hr] at ha
      exact .inl (.inl (.inr ⟨a, zs, rfl, SqL.of ha, hl, fun ys p pm so np => g.newL (repL_strs' ys) (q ys pm so) k p np⟩))
  · obtain ⟨a, vs, rfl, ha, hr⟩ := h
    have kk := repK_keys hr
    rcases hf with ⟨ns, e, hl, q⟩ | ⟨zs, e, hl, q⟩
    · exact .inr ⟨a, vs, ns, rfl, ha, kk.trans e, hl, fun ys p pm so np => g.newL (repL_ints' ys) (q ys pm so) k p np⟩
    · exact .inl (.inr ⟨a, vs, zs, rfl, ha, kk.trans e, hl, fun ys p pm so np => g.newL (repL_strs' ys) (q ys pm so) k p np⟩)
  · exact hf.elim
/-! ### sorted(set(xs)) -/
end
end DL
namespace DL
open PySem L2 PyProof.Rows
/-! ### dicts: keys are numbers or texts -/
def kD : Key → D
  | .inl i => .int i
  | .inr z => .str z
def keyD : D → Option Key
  | .int i => some (.inl i)
  | .str z => some (.inr z)
  | _ => none
def valD (kvs : List (Key × D)) (k : Key) : Option D := (kvs.find? fun kv => decide (kv.1 = k)).map (·.2)
def putD (kvs : List (Key × D)) (k : Key) (d : D) : List (Key × D) := if (kvs.any fun kv => decide (kv.1 = k)) = true then kvs.map (fun kv => if kv.1 = k then (kv.1, d) else kv) else kvs ++ [(k, d)]
section
variable {X : Cx} {b : Bg} {K : PySem.W.Frag}
theorem keyD_top {G H : Hp} {d : D} {k : Key} {v : V} (h : keyD d = some k) (t : Top K G H d v) : v = kV k := by
  cases d <;> cases h <;> cases t <;> rfl
theorem RepK.get {G : Hp} {kvs : List (Key × D)} {vs : List (Key × V)} (h : RepK K G kvs vs) {k : Key} : (valD kvs k = none ∧ valV vs k = none) ∨ ∃ d v, valD kvs k = some d ∧ valV vs k = some v ∧ Rep K G d v := by
  induction kvs generalizing vs with
  | nil => rw [show vs = [] from h]; exact .inl ⟨rfl, rfl⟩
  | cons p kvs ih =>
    obtain ⟨k1, d⟩ := p
    obtain ⟨v, r, rfl, hv, hr⟩ := h
    by_cases e : k1 = k
    · subst e
      exact .inr ⟨d, v, by simp [valD], by simp [valV], hv⟩
    · have e1 : valD ((k1, d) :: kvs) k = valD kvs k := by simp [valD, List.find?_cons, e]
      have e2 : valV ((k1, v) :: r) k = valV r k := by simp [valV, List.find?_cons, e]
      rw [e1, e2]
      exact ih hr
theorem RepK.any {G : Hp} {kvs : List (Key × D)} {vs : List (Key × V)} (h : RepK K G kvs vs) (k : Key) : (vs.any fun kv => decide (kv.1 = k)) = kvs.any fun kv => decide (kv.1 = k) := by
  induction kvs generalizing vs with
  | nil => rw [show vs = [] from h]; rfl
  | cons p kvs ih =>
    obtain ⟨k1, d⟩ := p
    obtain ⟨v, r, rfl, hv, hr⟩ := h
    rw [List.any_cons, List.any_cons, ih hr]
theorem RepK.map_put {G : Hp} {kvs : List (Key × D)} {vs : List (Key × V)} (h : RepK K G kvs vs) (k : Key) {d : D} {v : V} (hd : Rep K G d v) :
    RepK K G (kvs.map fun kv => if kv.1 = k then (kv.1, d) else kv) (vs.map fun kv => if kv.1 = k then (kv.1, v) else kv) := by
  induction kvs generalizing vs with
  | nil => rw [show vs = [] from h]; rfl
  | cons p kvs ih =>
    obtain ⟨k1, d1⟩ := p
    obtain ⟨v1, r, rfl, hv, hr⟩ := h
    rw [List.map_cons, List.map_cons]
    by_cases e : k1 = k
    · rw [if_pos e, if_pos e]
      exact ⟨_, _, rfl, hd, ih hr⟩
    · rw [if_neg e, if_neg e]
      exact ⟨_, _, rfl, hv, ih hr⟩
theorem RepK.snoc {G : Hp} {kvs : List (Key × D)} {vs : List (Key × V)} (h : RepK K G kvs vs) (k : Key) {d : D} {v : V} (hd : Rep K G d v) : RepK K G (kvs ++ [(k, d)]) (vs ++ [(k, v)]) := by
  induction kvs generalizing vs with
  | nil => rw [show vs = [] from h]; exact ⟨v, [], rfl, hd, rfl⟩
  | cons p kvs ih =>
    obtain ⟨k1, d1⟩ := p
    obtain ⟨v1, r, rfl, hv, hr⟩ := h
    exact ⟨v1, _, rfl, hv, ih hr⟩
theorem RepK.put {G : Hp} {kvs : List (Key × D)} {vs : List (Key × V)} (h : RepK K G kvs vs) (k : Key) {d : D} {v : V} (hd : Rep K G d v) : RepK K G (putD kvs k d) (putK vs k v) := by
  unfold putD putK
  rw [h.any k]
  split
  · exact h.map_put k hd
  · exact h.snoc k hd
theorem RepK.length {G : Hp} {kvs : List (Key × D)} {vs : List (Key × V)} (h : RepK K G kvs vs) : vs.length = kvs.length := by
  have := congrArg List.length (repK_keys h)
  rwa [List.length_map, List.length_map] at this
/-- {} -/
def uDict0 : DE := fun _ P => P (.ow (.dk []))
theorem d_dict0 {pos : Pos} : PD X b (.Dict [] [] pos) uDict0 := by
  refine ⟨_, pe_dnewK, ?_⟩
  intro L G0 H0 G H σ e P Q g hu k
  exact g.newK (xs := []) rfl hu k
end
end DL
namespace DL
open PySem L2 PyProof.Rows
/-! ### walks of dicts: the dict is locked while it is walked -/
section
variable {X : Cx} {b : Bg} {K : PySem.W.Frag}
theorem Good.lock {L : Lk} {G0 H0 G H : Hp} {σ : L2.St} {e : List Sl} {a : Addr} {vs : List (Key × V)} (g : Good K b L G0 H0 G H σ e) (hG : G a = some (.dK vs)) (hH : H a = some (.dK vs)) (od : Obj) :
    Good K b.q ((a, od, .dK vs) :: L) G0 H0 G (L2.upd H a (.frz od (.dK vs))) σ e where
  stp := by
    refine ⟨g.stp.g, fun c o hb nm h => ?_, g.stp.new, fun c o h => ?_, fun c hc h => ?_⟩
    · by_cases z : c = a
      · subst z
        rcases g.stp.fr c o hb nm h with q | ⟨od', m, q⟩
        · rw [hH] at q
          cases q
          exact .inr ⟨od, List.mem_cons_self, upd_same⟩
        · rw [hH] at q; cases q
      · rw [upd_ne z]
        exact (g.stp.fr c o hb nm h).imp id fun ⟨od', m, q⟩ => ⟨od', List.mem_cons_of_mem _ m, q⟩
    · by_cases z : c = a
      · subst z
        rw [hG] at h
        cases h
        exact .inr (.inl ⟨vs, od, rfl, upd_same⟩)
      · rw [upd_ne z]
        exact g.stp.ex c o h
    · obtain ⟨h1, s, ns, i, n, z, h2, h3⟩ := g.stp.bag c hc h
      have nc : c ≠ a := fun z => by rw [z, hG] at h1; cases h1
      exact ⟨h1, s, ns, i, n, z, by rw [upd_ne nc]; exact h2, h3⟩
  slot := fun i x hx => by
    have q := g.slot i x hx
    cases x with
    | un => trivial
    | sh d => exact q
    | own t o =>
      obtain ⟨c, ho, h1, h2, h3, h4, h5, h6⟩ := q
      have nc : c ≠ a := fun z => by rw [z, hG] at h4; cases h4
      exact ⟨c, ho, h1, h2, h3, h4, by rw [upd_ne nc]; exact h5, h6⟩
    | bag => exact q
    | tr t =>
      obtain ⟨v, z1, z2⟩ := q
      exact ⟨v, z1, z2.node, z2.rep.frame (Sub.refl G) fun c hc o ho => by rw [upd_ne (fun z : c = a => by have := (z2.ok c hc).2.2; rw [z, hG] at this; cases this)]; exact ho, z2.nd, z2.ok⟩
  inj := g.inj
  injT := g.injT
  bag := fun c hc => by
    obtain ⟨h1, s, ns, i, n, z, h2, h3⟩ := g.bag c hc
    have nc : c ≠ a := fun z => by rw [z, hG] at h1; cases h1
    exact ⟨h1, s, ns, i, n, z, by rw [upd_ne nc]; exact h2, h3⟩
  lk := fun c od' u m => by
    rcases List.mem_cons.mp m with z | z
    · cases z; exact upd_same
    · have q := g.lk c od' u z
      rw [upd_ne (fun z => by rw [z, hH] at q; cases q)]
      exact q
  len := g.len
  xl := xl_q
/-- an expression that is only looked at: it changes nothing -/
def LV (K : PySem.W.Frag) (b : Bg) (t : TE) (ud : List Sl → D → Prop) : Prop := ∀ (L : Lk) (G0 H0 G H : Hp) (σ : L2.St) (e : List Sl) (d : D), Good K b L G0 H0 G H σ e → ud e d → ∃ v, Rep K G d v ∧ ∀ (L' : Lk) (G0' H0' H' : Hp) (Q : VK), Good0 K b.a L' G0' H0' G H' σ e → Q v H' → t σ H' Q
structure PV (X : Cx) (b : Bg) (a : Expr) (ud : List Sl → D → Prop) : Prop where
  ex : ∃ t, PE X a t ∧ LV X.K b t ud
def vVar (i : Nat) : List Sl → D → Prop := fun e d => nth e i = .sh d
theorem pv_var (i : Nat) {x : Str} {p : Pos} (hN : X.N[i]? = some x := by rfl) (hv : Vis X.env.scope x := by first | exact Or.inl rfl | exact Or.inr (Or.inl rfl) | exact Or.inr (Or.inr rfl))
    (hd : (x == ("__debug__" : Str)) = false := by decide) (hcd : (x == ("__classdict__" : Str)) = false := by decide) : PV X b (.Name x p) (vVar i) := by
  refine ⟨_, pe_var hN hv hd hcd, ?_⟩
  intro L G0 H0 G H σ e d g hu
  obtain ⟨v, hv, hd⟩ := g.slot i _ (nth_get hu (by simp))
  exact ⟨v, hd, fun L' G0' H0' H' Q g' q => ⟨v, hv, q⟩⟩
theorem repK_at {G : Hp} {kvs : List (Key × D)} {vs : List (Key × V)} (h : RepK K G kvs vs) {i : Nat} {k : Key} {d : D} (e : kvs[i]? = some (k, d)) : ∃ v, vs[i]? = some (k, v) ∧ Rep K G d v := by
  induction kvs generalizing vs i with
  | nil => cases e
  | cons p kvs ih =>
    obtain ⟨k1, d1⟩ := p
    obtain ⟨v1, r, rfl, hv, hr⟩ := h
    cases i with
    | zero => cases e; exact ⟨v1, rfl, hv⟩
    | succ i => exact ih hr e
theorem Good.note {L : Lk} {G0 H0 G H : Hp} {σ : L2.St} {e : List Sl} {a : Addr} {od : Obj} {u : HO} (g : Good K b L G0 H0 G H σ e) (h : H a = some (.frz od u)) : Good K b.q ((a, od, u) :: L) G0 H0 G H σ e :=
  ⟨⟨⟨g.stp.g, fun c o hb nm h => (g.stp.fr c o hb nm h).imp id fun ⟨od', m, q⟩ => ⟨od', List.mem_cons_of_mem _ m, q⟩, g.stp.new, g.stp.ex, g.stp.bag⟩, g.slot, g.inj, g.bag, fun c od' u' m => by
    rcases List.mem_cons.mp m with z | z
    · cases z; exact h
    · exact g.lk c od' u' z, g.len, g.injT⟩, xl_q⟩
def uItK (ud : List Sl → D → Prop) : DI := fun e P => ∃ kvs, ud e (.dk kvs) ∧ P (kvs.map fun kv => kD kv.1)
end
end DL
namespace DL
open PySem L2 PyProof.Rows
/-! ### comprehensions over dicts; items, values -/
section
variable {X : Cx} {b : Bg} {K : PySem.W.Frag}
theorem lc_core {L : Lk} {G0 H0 G H G1 H1 : Hp} {σ : L2.St} {e : List Sl} {P : R → Prop} {Q : VK} {J : It} {xs : List D} {g : TG} {js : List Nat} {ug : DG} {tt : TT} {ut : DT} {te : TE} {ue : DE} {vs : List Nat} (hg : LG K b js g ug) (ht : LT K b tt ut) (he : LE K b te ue) (hj : ∀ j ∈ js, j ∈ vs)
    (gd : Good K b L G0 H0 G H σ e) (k : ∀ v r G' H', Stp b [] G H G' H' → RepR K b H σ e G' H' r v → P r → Q v H') (s1 : Stp b [] G H G1 H1) (hJ : JOk K b L G1 J xs)
    (q : ∃ W : Nat → List D → Prop, W 0 [] ∧ (∀ (i : Nat) x acc, xs[i]? = some x → W i acc → ug x (wipeE e vs) fun e2 => ut e2 fun c => if c = true then ue e2 (R.keep fun d => acc.length < 1000000 ∧ W (i + 1) (acc ++ [d])) else W (i + 1) acc) ∧ ∀ acc, W xs.length acc → P (.ow (.lst acc))) :
    tLc (fun _ H R => R J H) g tt te vs σ H1 Q := by
  obtain ⟨W, w0, hs, hd⟩ := q
  have g1 := gd.step s1
  intro Dl hD
  have nb : b.a ≠ some Dl := g1.nb hD
  have s0 : Stp b [] G1 H1 G1 (L2.upd H1 Dl (.lst [])) := Stp.made g1.ex hD
  refine ⟨fun i m H => m = xs.length - i ∧ i ≤ xs.length ∧ ∃ G acc va, Stp b [] G1 H1 G H ∧ G Dl = none ∧ H Dl = some (.lst va) ∧ RepL K G acc va ∧ W i acc,
    ⟨xs.length, by simp, Nat.zero_le _, G1, [], [], s0, g1.ex.none hD, upd_same, rfl, w0⟩, ?_⟩
  rintro i m H ⟨rfl, hi, G', acc, va, st, hgD, hHD, hra, w⟩
  have gg := (g1.step st).wipe vs
  obtain ⟨j1, j2⟩ := hJ G' H st.g st.ex gg.lk i
  by_cases c : i < xs.length
  · obtain ⟨go, y⟩ := j1 xs[i] (by simp [c])
    refine .inr ⟨go, fun H' => ∃ G acc va, Stp b [] G1 H1 G H' ∧ G Dl = none ∧ H' Dl = some (.lst va) ∧ RepL K G acc va ∧ W (i + 1) acc, fun H' q => ⟨xs.length - (i + 1), by omega, rfl, by omega, q⟩, fun v H2 hy => ?_⟩
    obtain ⟨G2, s2, hx⟩ := y v H2 hy
    have g2 := gg.step s2
    refine hg L G0 H0 G2 H2 _ _ _ v _ _ g2 hx (hs i xs[i] acc (by simp [c]) w) fun σ3 e3 g3 w3 q3 => ⟨?_, ?_⟩
    · rw [w3 vs hj, wipe_wipe]
    · refine ht L G0 H0 G2 H2 σ3 e3 _ _ g3 q3 fun c3 G4 H4 s4 q4 => ?_
      have g4 := g3.step s4
      have s14 := (st.trans s2).trans s4
      have d2 : G2 Dl = none := s2.new Dl nb (by rw [hHD]; simp) hgD
      have d4 : G4 Dl = none := s4.new Dl nb (by rw [s2.fr0 nb hHD]; simp) d2
      have h4 : H4 Dl = some (.lst va) := s4.fr0 nb (s2.fr0 nb hHD)
      cases c3 with
      | false => exact ⟨G4, acc, va, s14, d4, h4, (hra.mono s2.g).mono s4.g, q4⟩
      | true =>
        refine he L G0 H0 G4 H4 σ3 e3 _ _ g4 q4 fun v5 r5 G5 H5 s5 hr5 q5 => ?_
        obtain ⟨d, G6, s6, hd6, hl, q6⟩ := hr5.freeze s5 q5
        have d6 : G6 Dl = none := s6.new Dl nb (by rw [h4]; simp) d4
        have h6 : H5 Dl = some (.lst va) := s6.fr0 nb h4
        have ra : RepL K G6 acc va := ((hra.mono s2.g).mono s4.g).mono s6.g
        exact ⟨va, h6, by rw [ra.length]; exact lt_line hl, G6, acc ++ [d], va ++ [v5], (s14.trans s6).mut nb hD d6, d6, upd_same, ra.append (RepL.one hd6), q6⟩
  · have e1 : i = xs.length := by omega
    subst e1
    refine .inl ⟨j2 (Nat.le_refl _), ?_⟩
    exact k _ (.ow (.lst acc)) G' H (s1.trans st) ⟨Dl, _, rfl, nb, s1.back Dl nb hD, hgD, hHD, va, rfl, hra⟩ (hd acc w)

theorem RepR.unlock' {L : Lk} {Hs G0 H0 G H : Hp} {σ : L2.St} {e : List Sl} {a : Addr} {u : HO} {r : R} {v : V} (h : RepR K b Hs σ e G H r v) (hG : G a ≠ none) : RepR K b Hs σ e G (L2.upd H a u) r v := by
  cases r with
  | sh d => exact h
  | ow o =>
    obtain ⟨c, ho, h1, h2, h3, h4, h5, h6⟩ := h
    have nc : c ≠ a := fun z => hG (by rw [← z]; exact h4)
    exact ⟨c, ho, h1, h2, h3, h4, by rw [upd_ne nc]; exact h5, h6⟩
  | al i o => exact h
  | tr t => exact ⟨NewT.node h, (NewT.rep h).frame (Sub.refl G) fun c hc o ho => by rw [upd_ne (fun z => hG (by rw [← z]; exact (NewT.ok h c hc).2.2))]; exact ho, NewT.nd h, NewT.ok h⟩
/-- a step under a lock, seen from without -/
theorem stp_unlock {G H G' H' : Hp} {a : Addr} {od : Obj} {vs : List (Key × V)} (s : Stp b [] G (L2.upd H a (.frz od (.dK vs))) G' H') (ex : Ex G H) (hG : G a = some (.dK vs)) (hH : H a = some (.dK vs)) (nb : b.a ≠ some a) : H' a = some (.frz od (.dK vs)) ∧ Stp b [] G H G' (L2.upd H' a (.dK vs)) := by
  have hf : H' a = some (.frz od (.dK vs)) := s.fr0 nb upd_same
  refine ⟨hf, s.g, fun c o hb nm h => .inl ?_, fun c hb h hg => s.new c hb ?_ hg, fun c o h => ?_, fun c hc h => ?_⟩
  · by_cases z : c = a
    · subst z
      rw [hH] at h; cases h
      exact upd_same
    · rw [upd_ne z]
      exact s.fr0 hb (by rw [upd_ne z]; exact h)
  · by_cases z : c = a
    · subst z; rw [upd_same]; simp
    · rw [upd_ne z]; exact h
  · by_cases z : c = a
    · subst z
      have := s.g _ _ hG
      rw [this] at h; cases h
      exact .inl upd_same
    · rw [upd_ne z]; exact s.ex c o h
  · have nc : c ≠ a := fun z => by
      obtain ⟨h1, _⟩ := h
      rw [z, hG] at h1; cases h1
    have hb' : BagOk G (L2.upd H a (.frz od (.dK vs))) c := by
      obtain ⟨h1, q, ns, i, n, z, h2, h3⟩ := h
      exact ⟨h1, q, ns, i, n, z, by rw [upd_ne nc]; exact h2, h3⟩
    obtain ⟨h1, q, ns, i, n, z, h2, h3⟩ := s.bag c hc hb'
    exact ⟨h1, q, ns, i, n, z, by rw [upd_ne nc]; exact h2, h3⟩
theorem pe_or {a : Expr} {t u : TE} (h : PE X a t) (h' : PE X a u) : PE X a (fun σ H Q => t σ H Q ∨ u σ H Q) := ⟨fun pins s σ H Q I q => q.elim (h.run pins s σ H Q I) (h'.run pins s σ H Q I)⟩
end
end DL
namespace DL
open PySem L2 PyProof.Rows
section
variable {X : Cx} {b : Bg} {K : PySem.W.Frag}
theorem Good.ownK {L : Lk} {G0 H0 G H : Hp} {σ : L2.St} {e : List Sl} (g : Good K b L G0 H0 G H σ e) {i : Nat} {q : Option Addr} {kvs : List (Key × D)} (h : nth e i = .own q (.dk kvs)) : e[i]? = some (.own q (.dk kvs)) ∧ ∃ a vs, σ[i]? = some (some (.ref a)) ∧ H a = some (.dK vs) ∧ RepK K G kvs vs := by
  have hi := nth_get h (by simp)
  obtain ⟨a, ho, h1, _, _, _, h5, ⟨vs, rfl, h7⟩, _⟩ := g.slot i _ hi
  exact ⟨hi, a, vs, h1, h5, h7⟩
theorem not_frz_dk {H : Hp} {a : Addr} {vs : List (Key × V)} (h : H a = some (.dK vs)) : ∀ od u, H a ≠ some (.frz od u) := fun od u z => by rw [h] at z; cases z
/-- d[k] = e, d owned -/
def uPut (i : Nat) (uk : DE) (u : DX) : DS := fun DD e => u e fun r e' => r.keep fun d => (∃ q kvs, nth e' i = .own q (.dk kvs)) ∧ uk e' fun rk => ∃ (k : Key) (q : Option Addr) (kvs : List (Key × D)), keyD rk.look = some k ∧ nth e' i = .own q (.dk kvs) ∧ kvs.length < 1000000 ∧ DD.nx (e'.set i (.own q (.dk (putD kvs k d))))
theorem ds_put {i : Nat} {x : Str} {k a : Expr} {uk : DE} {u : DX} {px p2 pos : Pos} (hU : X.A.units + 1 < cLine) (hk : PD X b k uk) (h : PDX X b a u) (hN : X.N[i]? = some x := by rfl) (hv : Vis X.env.scope x := by first | exact Or.inl rfl | exact Or.inr (Or.inl rfl) | exact Or.inr (Or.inr rfl))
    (hd : (x == ("__debug__" : Str)) = false := by decide) (hcd : (x == ("__classdict__" : Str)) = false := by decide) (hs : swapsWith a (some (.Subscript (.Name x px) k p2)) pos.line X.env = pure false := by rfl) :
    PDS X b (.Assign [.Subscript (.Name x px) k p2] a pos) (uPut i uk u) := by
  obtain ⟨t, p, l⟩ := h
  obtain ⟨tk, pk, lk⟩ := hk
  refine ⟨_, ps_dput hU (pe_var hN hv hd hcd) pk p hs, ?_⟩
  intro L G0 H0 G H σ e DD EE g ok hu
  refine l L G0 H0 G H σ e _ _ g hu fun v r e' G' H' g' hr q => ?_
  obtain ⟨d, G2, g2, hd, q⟩ := hr.freeze g' q
  obtain ⟨⟨_, ys, hys⟩, q⟩ := q
  obtain ⟨_, a, vs, q1, _⟩ := g2.ownK hys
  refine ⟨_, q1, ?_⟩
  refine lk L G0 H0 G2 H' σ e' _ _ g2 q fun v3 r3 G3 H3 s3 hr3 q3 => ?_
  obtain ⟨kk, _, kvs, ek, hx, hn, q3⟩ := q3
  have g3 := g2.step s3
  obtain ⟨hi, a', ws, z1, z2, z3⟩ := g3.ownK hx
  rw [q1] at z1
  cases z1
  obtain rfl := keyD_top ek (hr3.top g3)
  refine ⟨a, _, rfl, .inl ⟨ws, kk, z2, rfl, by rw [z3.length]; exact lt_line hn, rfl⟩, ?_⟩
  exact ok.nx _ _ _ _ (g3.upd hi q1 (not_frz_dk z2) (o' := .dk (putD kvs kk d)) ⟨_, rfl, z3.put kk (hd.mono s3.g)⟩) q3
/-- d.get(k, e): the answer is shared -/
def uGet2 (ud uk ue : DE) : DE := fun e P => ud e fun r1 => ∃ kvs, r1.look = .dk kvs ∧ uk e fun r2 => ∃ k, keyD r2.look = some k ∧ ue e (R.keep fun d3 => P (.sh ((valD kvs k).getD d3)))
end
end DL
namespace DL
open PySem L2 PyProof.Rows
/-! ### a call that is handed an owned thing and answers something without parts -/
section
variable {X : Cx} {b : Bg} {K : PySem.W.Frag}
theorem flat_any {G G' : Hp} {d : D} {v : V} (f : flatD d = true) (h : Rep K G d v) : Rep K G' d v := by
  cases d <;> first | exact h | cases f
theorem repO_rep {G G' : Hp} {o : OD} {ho : HO} {a : Addr} (h : RepO K G o ho) (s : Sub G G') (ha : G' a = some ho) : Rep K G' o.d (.ref a) := by
  cases o with
  | lst xs => obtain ⟨vs, rfl, hr⟩ := h; exact ⟨a, vs, rfl, ha, hr.mono s⟩
  | dk kvs => obtain ⟨vs, rfl, hr⟩ := h; exact ⟨a, vs, rfl, ha, RepK.mono s hr⟩
  | obj C fs => obtain ⟨dx, vs, rfl, hr⟩ := h; exact ⟨a, dx, vs, rfl, ha, RepF.mono s hr⟩
def uCallO (f : FS) (i : Nat) (ua : DA) : DE := fun e P => ∃ q o, nth e i = .own q o ∧ ua e fun ds => f (o.d :: ds) fun r => ∃ d, r = .sh d ∧ flatD d = true ∧ P (.sh d)
open Classical in
/-- the frozen part as it was, and the code objects made since -/
noncomputable def onlyC (G G' : Hp) : Hp := fun c => match G c with
  | some o => some o
  | none => if ∃ q, G' c = some (LamX.CodeO c q) then G' c else none
theorem onlyC_sub {G G' : Hp} : Sub G (onlyC G G') := fun c o h => by unfold onlyC; rw [h]
theorem onlyC_code {G G' : Hp} {c : Addr} {q : Str} (s : Sub G G') (h : G' c = some (LamX.CodeO c q)) : onlyC G G' c = some (LamX.CodeO c q) := by
  unfold onlyC
  cases e : G c with
  | some o => have := s _ _ e; rw [h] at this; exact this.symm
  | none => simp only; rw [if_pos ⟨q, h⟩]; exact h
theorem onlyC_cases {G G' : Hp} {c : Addr} {o : HO} (h : onlyC G G' c = some o) : G c = some o ∨ (G c = none ∧ ∃ q, o = LamX.CodeO c q ∧ G' c = some o) := by
  unfold onlyC at h
  cases e : G c with
  | some u => rw [e] at h; exact .inl h
  | none =>
    rw [e] at h
    simp only at h
    split at h
    · rename_i k
      obtain ⟨q, k⟩ := k
      refine .inr ⟨rfl, q, ?_, h⟩
      rw [h] at k
      exact Option.some.inj k
    · cases h
theorem repO_code {K : PySem.W.Frag} {G : Hp} {o : OD} {hO : HO} (h : RepO K G o hO) (a : Addr) (q : Str) : hO ≠ LamX.CodeO a q := fun z => by
  subst z
  cases o with
  | lst xs => obtain ⟨vs, e, _⟩ := h; cases e
  | dk xs => obtain ⟨vs, e, _⟩ := h; cases e
  | obj C xs => obtain ⟨dx, vs, e, _⟩ := h; cases e
theorem after_only {K : PySem.W.Frag} {b : Option Addr} {G G1 H1 G' H' : Hp} {a : Addr} {hO : HO} {o : OD} (hr : RepO K G o hO) (ga : G1 a = none) (hb : b ≠ some a) (hH : H1 a = some hO) (ex : Ex G1 H1) (s : Stp none [] (L2.upd G1 a hO) H1 G' H') : Stp b [] G1 H1 (onlyC G1 G') H' := by
  have sb := sub_upd (o := hO) ga
  have sg : Sub G1 G' := sb.trans s.g
  have nmU : ∀ {c : Addr}, NM G1 c → NM (L2.upd G1 a hO) c := fun {c} nm => by
    by_cases z : c = a
    · subst z
      intro t y
      rw [upd_same] at y
      cases o with
      | lst xs => obtain ⟨vs, e, _⟩ := hr; subst e; cases y
      | dk xs => obtain ⟨vs, e, _⟩ := hr; subst e; cases y
      | obj C xs => obtain ⟨dx, vs, e, _⟩ := hr; subst e; cases y
    · intro t y
      rw [upd_ne z] at y
      exact nm t y
  refine ⟨onlyC_sub, fun c u hc nm h => .inl (s.fr0 (by simp) h (nmU nm)), fun c hc h hg => ?_, fun c u h => ?_, fun c hc h => ?_⟩
  · cases y : onlyC G1 G' c with
    | none => rfl
    | some u =>
      rcases onlyC_cases y with z | ⟨_, q, e, z⟩
      · rw [hg] at z; cases z
      · by_cases ca : c = a
        · subst ca
          rw [s.g _ _ upd_same] at z
          cases z
          exact (repO_code hr _ _ e).elim
        · rw [s.new c (by simp) h (by rw [upd_ne ca]; exact hg)] at z
          cases z
  · rcases onlyC_cases h with z | ⟨_, q, e, z⟩
    · have nc : c ≠ a := ne_of_none z ga
      rcases s.ex c u (sg _ _ z) with y | ⟨kvs, od, y1, y2⟩ | ⟨q, ps, y1, y2, y3⟩
      · exact .inl y
      · exact .inr (.inl ⟨kvs, od, y1, y2⟩)
      · exact .inr (.inr ⟨q, ps, y1, y2, y3.1, fun pos cv hc => by
          obtain ⟨c', e1, e2⟩ := y3.2 pos cv hc
          exact ⟨c', e1, onlyC_code sg e2⟩⟩)
    · rcases s.ex c u z with y | ⟨kvs, od, y1, y2⟩ | ⟨q', ps, y1, y2, y3⟩
      · exact .inl y
      · rw [e] at y1; cases y1
      · rw [e] at y1; cases y1
  · obtain ⟨b1, q, ns, i, n, z, b2, b3, b4⟩ := h
    have nc : c ≠ a := fun z => hb (by rw [← z]; exact hc)
    refine ⟨?_, q, ns, i, n, z, s.fr0 (by simp) b2 (nmU (nm_none b1)), onlyC_sub _ _ b3, b4⟩
    cases y : onlyC G1 G' c with
    | none => rfl
    | some u =>
      rcases onlyC_cases y with z | ⟨_, q, e, z⟩
      · rw [b1] at z; cases z
      · rw [s.new c (by simp) (by rw [b2]; simp) (by rw [upd_ne nc]; exact b1)] at z
        cases z
theorem d_callO {x y : Str} {i k : Nat} {ps : List Str} {f : FS} {es : List Expr} {ua : DA} {p px pos : Pos} (F : Known X.prog X.w X.K X.mg X.base x k ps (spN X.K f)) (hr : Room k X.A) (ha : PDA X b es ua) (hg : Gl X x := by rfl)
    (hdb : (x == ("__debug__" : Str)) = false := by decide) (hN : X.N[i]? = some y := by rfl) (hv : Vis X.env.scope y := by first | exact Or.inl rfl | exact Or.inr (Or.inl rfl) | exact Or.inr (Or.inr rfl)) (hd : (y == ("__debug__" : Str)) = false := by decide) (hcd : (y == ("__classdict__" : Str)) = false := by decide)
    (he : starEach (.Name y px :: es) X.env = (false, eval (.Name y px) X.env) :: starEach es X.env := by rfl) (hpl : (backTo pos (starEach es X.env)).any (·.1) = false := by rfl) : PD X b (.Call (.Name x p) (.Name y px :: es) [] pos) (uCallO f i ua) := by
  obtain ⟨fa, fd, F, hm, hk, hb⟩ := F
  obtain ⟨t, pa, l⟩ := ha
  refine ⟨_, pe_call F hr hg hm hk hb .nil pass0 (pa_cons (pe_var hN hv hd hcd) pa he) hdb he hpl, ?_⟩
  intro L G0 H0 G H σ e P Q g hu kk
  obtain ⟨q0, o, ho, hu⟩ := hu
  obtain ⟨a, hO, h1, h2, h3, h4, h5, h6, _⟩ := g.slot i _ (nth_get ho (by simp))
  refine ⟨_, h1, ?_⟩
  refine l L G0 H0 G H σ e _ _ g hu fun vs ds G1 H1 s1 hds q => ?_
  have g1 := g.step s1
  have ga : G1 a = none := s1.new a h2 (by rw [h5]; simp) h4
  have haH : H1 a = some hO := s1.fr0 h2 h5
  have sb := sub_upd (o := hO) ga
  have ex2 : Ex (L2.upd G1 a hO) H1 := fun c u h => by
    by_cases z : c = a
    · subst z; rw [upd_same] at h; cases h; exact .inl haH
    · rw [upd_ne z] at h; exact (g1.ex c u h).mono sb
  show spN X.K f ((.ref a :: vs) ++ []) H1 Q E0
  rw [List.append_nil]
  refine ⟨_, o.d :: ds, _, ex2, ⟨_, _, rfl, repO_rep (h6.mono s1.g) sb upd_same, hds.mono sb⟩, q, fun v r G' H' s hr hp => ?_⟩
  obtain ⟨d, rfl, fl, hp⟩ := hp
  have st := after_only (b := b) h6 ga h2 haH g1.ex s
  exact kk v (.sh d) _ H' (s1.trans st) (flat_any fl hr) hp
end
end DL
namespace DL
open PySem L2 PyProof.Rows
section
variable {X : Cx} {b : Bg} {K : PySem.W.Frag}
/-- tuple(xs) -/
def fTupc (d : D) (P : R → Prop) : Prop := match d with
  | .lst xs => P (.sh (.tup xs))
  | _ => False
theorem d_tuplec {a : Expr} {u : DE} {p pos : Pos} (hm : X.mg "tuple" = none) (h1 : PD X b a u) (hg : Gl X "tuple" := by rfl) (hs : starEach (a :: []) X.env = (false, eval a X.env) :: starEach [] X.env := by rfl) : PD X b (.Call (.Name "tuple" p) [a] [] pos) (uB fTupc u) := by
  obtain ⟨t, pe, l⟩ := h1
  refine ⟨_, pe_tupleOf hg hm pe (na := hs), ?_⟩
  intro L G0 H0 G H σ e P Q g hu k
  refine l L G0 H0 G H σ e _ _ g hu fun v r G1 H1 s1 hr q => ?_
  have g1 := g.step s1
  have tp := hr.top g1
  unfold fTupc at q
  split at q
  · rename_i xs ed
    rw [ed] at tp
    obtain ⟨a, vs, rfl, ha, hrep⟩ := tp
    refine .inl ⟨a, vs, rfl, SqL.of ha, fun q2 nq => ?_⟩
    exact g1.newT hrep q (fun v r G2 H2 s2 hr2 p2 => k v r G2 H2 (s1.trans s2) (hr2.back fun a hb z => s1.back a hb z) p2) q2 nq
  · exact q.elim
end
end DL
namespace DL
open PySem L2 PyProof.Rows
section
variable {X : Cx} {b : Bg} {K : PySem.W.Frag}
/-! ### xs.count(z), texts -/
end
end DL
/-! DL23: instances of the program's own classes: attributes, methods, making by __init__. -/
namespace DL
open PySem L2 PyProof.Rows
section
variable {X : Cx} {b : Bg} {K : PySem.W.Frag}
theorem RepF.get {G : Hp} {f : Str} : ∀ {fs : List (Str × D)} {vs : List (Str × V)} {x : D}, RepF K G fs vs → fs.lookup f = some x → ∃ v, vs.lookup f = some v ∧ Rep K G x v
  | [], _, _, _, e => by cases e
  | (k, y) :: fs, _, x, ⟨v, r, h1, h2, h3⟩, e => by
    subst h1
    cases q : (f == k) with
    | true =>
      rw [List.lookup_cons, q] at e
      cases e
      exact ⟨v, by rw [List.lookup_cons, q], h2⟩
    | false =>
      rw [List.lookup_cons, q] at e
      obtain ⟨w, z1, z2⟩ := RepF.get h3 e
      exact ⟨w, by rw [List.lookup_cons, q]; exact z1, z2⟩
theorem RepF.lnone {G : Hp} {f : Str} : ∀ {fs : List (Str × D)} {vs : List (Str × V)}, RepF K G fs vs → fs.lookup f = none → vs.lookup f = none
  | [], _, h, _ => by cases h; rfl
  | (k, y) :: fs, _, ⟨v, r, h1, h2, h3⟩, e => by
    subst h1
    cases q : (f == k) with
    | true => rw [List.lookup_cons, q] at e; cases e
    | false => rw [List.lookup_cons, q] at e ⊢; exact RepF.lnone h3 e
theorem RepF.length {G : Hp} : ∀ {fs : List (Str × D)} {vs : List (Str × V)}, RepF K G fs vs → vs.length = fs.length
  | [], _, h => by cases h; rfl
  | (k, y) :: fs, _, ⟨v, r, h1, h2, h3⟩ => by subst h1; simp [RepF.length h3]
def putFD (f : Str) (d : D) : List (Str × D) → List (Str × D)
  | [] => [(f, d)]
  | (g, x) :: r => if g = f then (g, d) :: r else (g, x) :: putFD f d r
theorem RepF.put {G : Hp} {f : Str} {d : D} {v : V} (hd : Rep K G d v) : ∀ {fs : List (Str × D)} {vs : List (Str × V)}, RepF K G fs vs → RepF K G (putFD f d fs) (putF f v vs)
  | [], _, h => by cases h; exact ⟨v, [], rfl, hd, rfl⟩
  | (k, y) :: fs, _, ⟨w, r, h1, h2, h3⟩ => by
    subst h1
    unfold putFD putF
    by_cases q : k = f
    · rw [if_pos q, if_pos q]; exact ⟨v, r, rfl, hd, h3⟩
    · rw [if_neg q, if_neg q]; exact ⟨w, _, rfl, h2, RepF.put hd h3⟩
/-- o.f -/
def uFld (C : Addr) (f : Str) (u : DE) : DE := fun e P => u e fun r => ∃ fs x, r.look = .obj C fs ∧ fs.lookup f = some x ∧ P (.sh x)
theorem d_fld {C : Addr} {f : Str} {a : Expr} {u : DE} {pos : Pos} (c : Cls X.K C) (n : NoAttr X.K C f) (h : PD X b a u) (hb : attributeBase a f X.env (eval a X.env) = eval a X.env := by rfl) : PD X b (.Attribute a f pos) (uFld C f u) := by
  obtain ⟨t, p, l⟩ := h
  refine ⟨_, pe_fld p hb, ?_⟩
  intro L G0 H0 G H σ e P Q g hu k
  refine l L G0 H0 G H σ e _ _ g hu fun v r G' H' s hr ⟨fs, x, hl, hf, hp⟩ => ?_
  have g' := g.step s
  have tp := hr.top g'
  rw [hl] at tp
  obtain ⟨a, dx, vs, rfl, ha, hrf⟩ := tp
  obtain ⟨w, hw, hx⟩ := hrf.get hf
  exact ⟨a, C, dx, vs, w, rfl, ha, c, n, hw, k w (.sh x) G' H' (Stp.trans s (Stp.refl g'.ex)) hx hp⟩
/-- a method of a class -/
structure KnownM (P : Program) (w : World) (K : PySem.W.Frag) (mg : Str → Option Value) (base : Heap) (C : Addr) (m : Str) (k : Nat) (ps : List Str) (sp : Sp) : Prop where
  ex : ∃ g fd, FnOk P w K mg base CX0 k g fd ps sp ∧ Meth K C m g ∧ Cls K C ∧ Binds K fd ps []
theorem ret_rep {L : Lk} {G0 H0 G1 H1 G' H' : Hp} {Hs : Hp} {σ : L2.St} {e : List Sl} {r : R} {v : V} (g1 : Good K b L G0 H0 G1 H1 σ e) (hr : RepR K none H1 [] [] G' H' r v) (hs : ∀ a, b.a ≠ some a → H1 a = none → Hs a = none) : RepR K b Hs σ e G' H' r v := by
  cases r with
  | sh d => exact hr
  | ow o =>
    obtain ⟨a, ho, h1, _, h3, h4⟩ := hr
    have hb : b.a ≠ some a := g1.nb h3
    exact ⟨a, ho, h1, hb, hs a hb h3, h4⟩
  | al i o => obtain ⟨⟨_, h⟩, _⟩ := hr; simp at h
  | tr t => exact NewT.imp hr fun a hb h3 => ⟨g1.nb h3, hs a (g1.nb h3) h3⟩
def uMeth (C : Addr) (m : Str) (f : FS) (uo : DE) (ua : DA) : DE := fun e P => uo e (R.keep fun d => ∃ fs, d = .obj C fs ∧ fs.lookup m = none ∧ ua e fun ds => f (d :: ds) P)
theorem le_meth {C : Addr} {m : Str} {f : FS} {to : TE} {ta : TA} {uo : DE} {ua : DA} (l1 : LE K b to uo) (l2 : LA K b ta ua) : LE K b (tMeth C m (spN K f) [] E0 to ta) (uMeth C m f uo ua) := by
  intro L G0 H0 G H σ e P Q g hu k
  refine l1 L G0 H0 G H σ e _ _ g hu fun v r G1 H1 s1 hr q => ?_
  obtain ⟨d, G2, s2, hd, q⟩ := hr.freeze s1 q
  obtain ⟨fs, rfl, hm, q⟩ := q
  have g2 := g.step s2
  obtain ⟨a, dx, vs, rfl, hG, hrf⟩ := id hd
  have hH : H1 a = some (.ins C dx vs) := by
    rcases g2.ex.old a _ hG with z | ⟨_, _, z, _⟩
    · exact z
    · cases z
  refine ⟨a, dx, vs, rfl, hH, hrf.lnone hm, ?_⟩
  refine l2 L G0 H0 G2 H1 σ e _ _ g2 q fun ws ds G3 H3 s3 hr3 q3 => ?_
  have s23 := s2.trans s3
  have g3 := g.step s23
  rw [List.append_nil]
  refine ⟨G3, .obj C fs :: ds, P, g3.ex, ⟨_, _, rfl, hd.mono s3.g, hr3⟩, q3, fun v r G' H' s hr hp => ?_⟩
  exact k v r G' H' (s23.trans s.some) (ret_rep g3 hr fun a hb z => s23.back a hb z) hp
theorem d_meth {C : Addr} {m : Str} {k : Nat} {ps : List Str} {f : FS} {o a : Expr} {es : List Expr} {uo : DE} {ua : DA} {apos pos : Pos} {pl : Sem Bool} (F : KnownM X.prog X.w X.K X.mg X.base C m k ps (spN X.K f)) (hr : Room k X.A) (ho : PD X b o uo) (ha : PDA X b (a :: es) ua)
    (hst : starEach (a :: es) X.env = (false, eval a X.env) :: starEach es X.env := by rfl) (hpl : (backTo pos (starEach es X.env)).any (·.1) = false := by rfl)
    (ht : eval (.Call (.Attribute o m apos) (a :: es) [] pos) X.env = (do
      let ov ← eval o X.env
      standAt apos.atName
      let (f, first) ← holding [ov] (getMethod ov m pl)
      callWith pos f first (backTo pos (starEach (a :: es) X.env)) (backToKw pos (keywordEach [] X.env))) := by rfl) : PD X b (.Call (.Attribute o m apos) (a :: es) [] pos) (uMeth C m f uo ua) := by
  obtain ⟨g, fd, F, M, c, bi⟩ := F
  obtain ⟨to, po, lo⟩ := ho
  obtain ⟨ta, pa, la⟩ := ha
  exact ⟨_, pe_meth (pl := pl) po c M F hr bi .nil pass0 pa hst hpl ht, le_meth lo la⟩
theorem d_meth0 {C : Addr} {m : Str} {k : Nat} {ps : List Str} {f : FS} {o : Expr} {uo : DE} {apos pos : Pos} {pl : Sem Bool} (F : KnownM X.prog X.w X.K X.mg X.base C m k ps (spN X.K f)) (hr : Room k X.A) (ho : PD X b o uo)
    (ht : eval (.Call (.Attribute o m apos) [] [] pos) X.env = (do
      let ov ← eval o X.env
      standAt apos.atName
      let (f, first) ← holding [ov] (getMethod ov m pl)
      callWith pos f first (backTo pos (starEach [] X.env)) (backToKw pos (keywordEach [] X.env))) := by rfl) : PD X b (.Call (.Attribute o m apos) [] [] pos) (uMeth C m f uo uNil) := by
  obtain ⟨g, fd, F, M, c, bi⟩ := F
  obtain ⟨to, po, lo⟩ := ho
  exact ⟨_, pe_meth0 (pl := pl) po c M F hr bi .nil pass0 ht, le_meth lo la_nil⟩
/-- C(..): what __init__ promises -/
abbrev FI := List D → (List (Str × D) → Prop) → Prop
def but (H : Hp) (a : Addr) : Hp := fun c => if c = a then none else H c
theorem but_same {H : Hp} {a : Addr} : but H a a = none := if_pos rfl
theorem but_ne {H : Hp} {a c : Addr} (h : c ≠ a) : but H a c = H c := if_neg h
def spI (K : PySem.W.Frag) (C : Addr) (f : FI) : Sp := fun vs H Q _ => ∃ a dx vs' G ds P, vs = .ref a :: vs' ∧ Ex G H ∧ G a = none ∧ H a = some (.ins C dx []) ∧ RepL K G ds vs' ∧ f ds P ∧
  ∀ fs G' H' ho, Stp none [] G (but H a) G' H' → G' a = none → H' a = some ho → RepO K G' (.obj C fs) ho → P fs → Q .non H'
structure KnownI (P : Program) (w : World) (K : PySem.W.Frag) (mg : Str → Option Value) (base : Heap) (x : Str) (C : Addr) (k : Nat) (ps : List Str) (sp : Sp) : Prop where
  ex : ∃ g fd, FnOk P w K mg base CX0 k g fd ps sp ∧ Mk K C g ∧ mg x = some (.ref C) ∧ Binds K fd ps []
def uMake (C : Addr) (f : FI) (ua : DA) : DE := fun e P => ua e fun ds => f ds fun fs => P (.ow (.obj C fs))
theorem le_make {C : Addr} {f : FI} {ta : TA} {ua : DA} (l : LA K b ta ua) : LE K b (tMake C (spI K C f) [] E0 ta) (uMake C f ua) := by
  intro L G0 H0 G H σ e P Q g hu k
  refine l L G0 H0 G H σ e _ _ g hu fun vs ds G1 H1 s1 hds q => ?_
  have g1 := g.step s1
  intro x dx hx hdx ne
  rw [List.append_nil]
  have ex1 : Ex G1 (L2.upd (L2.upd H1 dx (.own x)) x (.ins C dx [])) := fun c o h => by
    have c1 : c ≠ x := ne_of_none h (g1.ex.none hx)
    have c2 : c ≠ dx := ne_of_none h (g1.ex.none hdx)
    rw [upd_ne c1, upd_ne c2]
    exact g1.ex c o h
  refine ⟨x, dx, vs, G1, ds, _, rfl, ex1, g1.ex.none hx, upd_same, hds, q, fun fs G' H' ho s hG hH hr hp => ⟨rfl, ?_⟩⟩
  have up : ∀ c o, H1 c = some o → but (L2.upd (L2.upd H1 dx (.own x)) x (.ins C dx [])) x c = some o := fun c o h => by
    have c1 : c ≠ x := ne_of_none h hx
    have c2 : c ≠ dx := ne_of_none h hdx
    rw [but_ne c1, upd_ne c1, upd_ne c2]; exact h
  have s' : Stp b [] G1 H1 G' H' := by
    refine ⟨s.g, fun c o hb nm h => .inl (s.fr0 (by simp) (up c o h)), fun c hb h hg => ?_, s.ex, fun c hc ⟨h1, q, ns, i, n, z, h2, h3, h4⟩ => ?_⟩
    · cases hh : H1 c with
      | none => exact absurd hh h
      | some o => exact s.new c (by simp) (by rw [up c o hh]; simp) hg
    · exact ⟨s.new c (by simp) (by rw [up _ _ h2]; simp) h1, q, ns, i, n, z, s.fr0 (by simp) (up _ _ h2), s.g _ _ h3, h4⟩
  exact k (.ref x) (.ow (.obj C fs)) G' H' (s1.trans s') ⟨x, ho, rfl, g1.nb hx, s1.back x (g1.nb hx) hx, hG, hH, hr⟩ hp
theorem d_make {x : Str} {C : Addr} {k : Nat} {ps : List Str} {f : FI} {a : Expr} {es : List Expr} {ua : DA} {p pos : Pos} (F : KnownI X.prog X.w X.K X.mg X.base x C k ps (spI X.K C f)) (hr : Room (k + 1) X.A) (ha : PDA X b (a :: es) ua) (hg : Gl X x := by rfl)
    (hdb : (x == ("__debug__" : Str)) = false := by decide) (he : starEach (a :: es) X.env = (false, eval a X.env) :: starEach es X.env := by rfl) (hpl : (backTo pos (starEach es X.env)).any (·.1) = false := by rfl) : PD X b (.Call (.Name x p) (a :: es) [] pos) (uMake C f ua) := by
  obtain ⟨g, fd, F, M, hm, bi⟩ := F
  obtain ⟨t, pa, l⟩ := ha
  exact ⟨_, pe_make M F hr hg hm bi .nil pass0 pa hdb he hpl, le_make l⟩
theorem Good.ownF {L : Lk} {G0 H0 G H : Hp} {σ : L2.St} {e : List Sl} (g : Good K b L G0 H0 G H σ e) {i : Nat} {q : Option Addr} {C : Addr} {fs : List (Str × D)} (h : nth e i = .own q (.obj C fs)) : e[i]? = some (.own q (.obj C fs)) ∧ ∃ a dx vs, σ[i]? = some (some (.ref a)) ∧ H a = some (.ins C dx vs) ∧ RepF K G fs vs := by
  have hi := nth_get h (by simp)
  obtain ⟨a, ho, h1, _, _, _, h5, ⟨dx, vs, h6, h7⟩, _⟩ := g.slot i _ hi
  subst h6
  exact ⟨hi, a, dx, vs, h1, h5, h7⟩
/-- self.f = e -/
def uPutF (i : Nat) (C : Addr) (f : Str) (u : DX) : DS := fun DD e => u e fun r e' => r.keep fun d => ∃ q fs, nth e' i = .own q (.obj C fs) ∧ fs.length < 1000 ∧ DD.nx (e'.set i (.own q (.obj C (putFD f d fs))))
theorem ds_putF {i : Nat} {x f : Str} {C : Addr} {a : Expr} {u : DX} {px p2 pos : Pos} (c : Cls X.K C) (n : NoAttr X.K C f) (h : PDX X b a u) (hN : X.N[i]? = some x := by rfl) (hv : Vis X.env.scope x := by first | exact Or.inl rfl | exact Or.inr (Or.inl rfl) | exact Or.inr (Or.inr rfl))
    (hd : (x == ("__debug__" : Str)) = false := by decide) (hcd : (x == ("__classdict__" : Str)) = false := by decide) (hs : swapsWith a (some (.Attribute (.Name x px) f p2)) pos.line X.env = pure false := by rfl) :
    PDS X b (.Assign [.Attribute (.Name x px) f p2] a pos) (uPutF i C f u) := by
  obtain ⟨t, p, l⟩ := h
  refine ⟨_, ps_fld (pe_var hN hv hd hcd) p hs, ?_⟩
  intro L G0 H0 G H σ e DD EE g ok hu
  refine l L G0 H0 G H σ e _ _ g hu fun v r e' G' H' g' hr q => ?_
  obtain ⟨d, G2, g2, hd, q⟩ := hr.freeze g' q
  obtain ⟨t, fs, hys, hl, q⟩ := q
  obtain ⟨hi, a, dx, vs, q1, q2, q3⟩ := g2.ownF hys
  refine ⟨_, q1, a, C, dx, vs, rfl, q2, c, n, by rw [q3.length]; exact hl, ?_⟩
  exact ok.nx _ _ _ _ (g2.upd hi q1 (fun od u z => by rw [q2] at z; cases z) (o' := .obj C (putFD f d fs)) ⟨dx, _, rfl, q3.put hd⟩) q
end
section
variable {K : PySem.W.Frag} {P : Program} {w : World} {mg : Str → Option Value} {base : Heap}
/-- an __init__ -/
theorem fn_init {qual : Str} {st : Stmt} {f C : Addr} {fd : FuncData} {N ps : List Str} {k : Nat} {fi : FI} {u : DS} (F : Fun K "__init__" qual st f fd) (S : FnScope N ps (defScope st)) (len : ∀ ds P, fi ds P → ds.length + 1 = ps.length) (hN : N.length = N.tail.length + 1)
    (hb : ∀ (cdv : Value) (A : Around) (outer : List Env) (s : Shared) (H : Hp) (E : XK), Room k (A.deeper (envOfC qual (defScope st) s.heap.objs.size f cdv)) → PDSs (cxOf CX0 P w K mg base N qual (defScope st) f cdv A outer s H E).nox (bN none) (defBody st) u)
    (hu : ∀ (q : Option Addr) ds P, fi ds P → u ⟨fun e => ∃ fs, nth e 0 = .own q (.obj C fs) ∧ P fs, fun r e => r = .sh .non ∧ ∃ fs, nth e 0 = .own q (.obj C fs) ∧ P fs, fun _ => False, fun _ => False⟩ (.own q (.obj C []) :: env0 N.tail ds)) : FnOk P w K mg base CX0 (k + 1) f fd ps (spI K C fi) := by
  refine F.ok S (fun vs H Q E h => ?_) (fun cdv A outer s H vs Q E hr h => ?_)
  · obtain ⟨a, dx, vs', G, ds, P, rfl, _, _, _, hr, hf, _⟩ := h
    rw [List.length_cons, hr.length]; exact len ds P hf
  · obtain ⟨a, dx, vs', G, ds, P', rfl, ex, hga, hH, hds, hf, kk⟩ := h
    obtain ⟨t, p, l⟩ := hb cdv A outer s H E hr
    have es : L2.start N (.ref a :: vs') = some (.ref a) :: (vs'.map some ++ List.replicate (N.tail.length - vs'.length) none) := by
      unfold L2.start
      rw [List.map_cons, List.length_cons, hN, Nat.add_sub_add_right]
      rfl
    refine ⟨t, p, ?_⟩
    rw [es]
    have ea : ∀ {c : Addr} {o : HO}, but H a c = some o → c ≠ a ∧ H c = some o := fun {c o} h => by
      have hc : c ≠ a := fun z => by rw [z, but_same] at h; cases h
      exact ⟨hc, by rw [← but_ne (H := H) hc]; exact h⟩
    have noo : ∀ {j : Nat} {t : Option Addr} {o : OD}, (Sl.own (some a) (.obj C []) :: env0 N.tail ds)[j]? = some (.own t o) → j = 0 := fun {j t o} e => by
      cases j with
      | zero => rfl
      | succ j => exact absurd (show (ds.map Sl.sh ++ List.replicate _ .un)[j]? = some (.own t o) by simpa [env0] using e) noown
    have gd : Good K (bN none) [] G (but H a) G H (some (.ref a) :: (vs'.map some ++ List.replicate (N.tail.length - vs'.length) none)) (.own (some a) (.obj C []) :: env0 N.tail ds) := by
      refine ⟨⟨⟨Sub.refl G, fun c o _ _ h => .inl (ea h).2, fun _ _ _ h => h, ex, fun c h => (by cases h)⟩, fun j y e => ?_, fun j j' q q' o o' c e1 e2 _ _ => by rw [noo e1, noo e2], fun c h => (by cases h), fun c od u m => (by cases m), ?_, fun i j t y c h1 => by cases i with | zero => cases h1 | succ i => exact absurd (show (ds.map Sl.sh ++ List.replicate _ .un)[i]? = some (.tr t) by simpa [env0] using h1) notr⟩, xl_n⟩
      · cases j with
        | zero => cases e; exact ⟨a, _, rfl, by simp, but_same, hga, hH, ⟨dx, [], rfl, rfl⟩, fun a0 h => by cases h; rfl⟩
        | succ j => exact slot_start hds _ _ j y (by simpa [env0] using e)
      · have := hds.length
        unfold env0
        simp [this]
    have fin : ∀ {G' H' : Hp} {σ : L2.St} {e : List Sl}, Good K (bN none) [] G (but H a) G' H' σ e → (∃ fs, nth e 0 = .own (some a) (.obj C fs) ∧ P' fs) → Q .non H' := fun {G' H' σ e} g ⟨fs, he, hp⟩ => by
      obtain ⟨a', ho, q1, q2, q3, q4, q5, q6, q7⟩ := g.slot 0 _ (nth_get he (by simp))
      have eqa := q7 a rfl
      subst eqa
      exact kk fs G' H' ho g.stp q4 q5 q6 hp
    refine l [] G (but H a) G H _ _ ⟨fun e => ∃ fs, nth e 0 = .own (some a) (.obj C fs) ∧ P' fs, fun r e => r = .sh .non ∧ ∃ fs, nth e 0 = .own (some a) (.obj C fs) ∧ P' fs, fun _ => False, fun _ => False⟩ _ gd ⟨fun G' H' σ e g h => fin g h, fun G' H' σ e v r g hr h => ?_, fun G' H' σ e g h => h.elim, fun G' H' σ e g h => h.elim⟩ (hu (some a) ds P' hf)
    obtain ⟨rfl, h⟩ := h
    cases hr
    exact fin g h
end
end DL
/-! DL24: plain tools: sorted texts and numbers as functions; dicts as lists of pairs; comprehensions that only map and filter. -/
namespace DL
open PySem L2 PyProof.Rows PySem.Spec
theorem ltCps_iff : ∀ a b : List Nat, ltCps a b = decide (a < b)
  | [], [] => by simp [ltCps]
  | [], _ :: _ => by simp [ltCps]
  | _ :: _, [] => by simp [ltCps]
  | a :: r, b :: t => by
    have ih := ltCps_iff r t
    show (decide (a < b) || (a == b && ltCps r t)) = _
    rw [ih, Bool.eq_iff_iff]
    simp [List.cons_lt_cons_iff]
def leS (a b : Str) : Bool := !ltCps b.cps.toList a.cps.toList
theorem leS_iff {a b : Str} : leS a b = true ↔ ¬ b.cps.toList < a.cps.toList := by unfold leS; rw [ltCps_iff]; simp
theorem leS_trans (a b c : Str) (h : leS a b = true) (h' : leS b c = true) : leS a c = true := by
  rw [leS_iff] at h h' ⊢
  exact List.le_trans (show a.cps.toList ≤ b.cps.toList from h) (show b.cps.toList ≤ c.cps.toList from h')
theorem leS_total (a b : Str) : (leS a b || leS b a) = true := by
  rw [Bool.or_eq_true, leS_iff, leS_iff]
  rcases List.le_total a.cps.toList b.cps.toList with h | h
  · exact .inl h
  · exact .inr h
theorem Str_ext {a b : Str} (h : a.cps.toList = b.cps.toList) : a = b := by
  obtain ⟨⟨a⟩⟩ := a
  obtain ⟨⟨b⟩⟩ := b
  simp at h
  subst h
  rfl
theorem leS_anti {a b : Str} (h : leS a b = true) (h' : leS b a = true) : a = b := by
  rw [leS_iff] at h h'
  exact Str_ext (List.le_antisymm (show a.cps.toList ≤ b.cps.toList from h) (show b.cps.toList ≤ a.cps.toList from h'))
theorem rising_pw : ∀ (l : List Str) (p : Str), risingS p l = true → (∀ y ∈ l, leS p y = true) ∧ l.Pairwise (fun a b => leS a b = true)
  | [], _, _ => ⟨by simp, .nil⟩
  | x :: r, p, h => by
    rw [show risingS p (x :: r) = (!ltCps x.cps.toList p.cps.toList && risingS x r) from rfl, Bool.and_eq_true] at h
    obtain ⟨h1, h2⟩ := rising_pw r x h.2
    have h0 : leS p x = true := h.1
    refine ⟨fun y hy => ?_, .cons h1 h2⟩
    rcases List.mem_cons.mp hy with rfl | hy
    · exact h0
    · exact leS_trans _ _ _ h0 (h1 y hy)
theorem sortedS_pw {l : List Str} (h : sortedS l = true) : l.Pairwise (fun a b => leS a b = true) := by
  cases l with
  | nil => exact .nil
  | cons x r => obtain ⟨h1, h2⟩ := rising_pw r x h; exact .cons h1 h2
def srtS (zs : List Str) : List Str := zs.mergeSort leS
def leI (a b : Int) : Bool := decide (a ≤ b)
def srtI (ns : List Int) : List Int := ns.mergeSort leI
theorem srtS_perm (zs : List Str) : (srtS zs).Perm zs := List.mergeSort_perm _ _
theorem srtI_perm (zs : List Int) : (srtI zs).Perm zs := List.mergeSort_perm _ _
theorem srtS_pw (zs : List Str) : (srtS zs).Pairwise (fun a b => leS a b = true) := List.pairwise_mergeSort leS_trans leS_total _
theorem srtI_pw (zs : List Int) : (srtI zs).Pairwise (fun a b => leI a b = true) := List.pairwise_mergeSort (fun a b c h h' => by simp [leI] at *; omega) (fun a b => by simp [leI]; omega) _
theorem srtS_eq {ys zs : List Str} (h : ys.Perm zs) (p : ys.Pairwise (fun a b => leS a b = true)) : ys = srtS zs :=
  List.Perm.eq_of_pairwise (fun a b _ _ h h' => leS_anti h h') p (srtS_pw zs) (h.trans (srtS_perm zs).symm)
theorem srtI_eq {ys zs : List Int} (h : ys.Perm zs) (p : ys.Pairwise (· ≤ ·)) : ys = srtI zs :=
  List.Perm.eq_of_pairwise (le := fun a b => leI a b = true) (fun a b _ _ h h' => by simp [leI] at h h'; omega) (p.imp fun h => by simpa [leI] using h) (srtI_pw zs) (h.trans (srtI_perm zs).symm)
theorem srtS_mem {zs : List Str} {z : Str} : z ∈ srtS zs ↔ z ∈ zs := (srtS_perm zs).mem_iff
theorem srtI_mem {zs : List Int} {z : Int} : z ∈ srtI zs ↔ z ∈ zs := (srtI_perm zs).mem_iff
theorem srtS_len (zs : List Str) : (srtS zs).length = zs.length := (srtS_perm zs).length_eq
theorem srtI_len (zs : List Int) : (srtI zs).length = zs.length := (srtI_perm zs).length_eq
/-- distinct -/
def dd {α : Type} [DecidableEq α] : List α → List α
  | [] => []
  | x :: xs => if x ∈ xs then dd xs else x :: dd xs
theorem perm_mem {α : Type} [DecidableEq α] {xs ys : List α} (h : xs.Nodup) (h' : ys.Nodup) (k : ∀ y, y ∈ xs ↔ y ∈ ys) : xs.Perm ys := by
  rw [List.perm_iff_count]
  intro a
  rw [h.count, h'.count]
  by_cases m : a ∈ xs
  · rw [if_pos m, if_pos ((k a).mp m)]
  · rw [if_neg m, if_neg (fun z => m ((k a).mpr z))]
/-- sorted(set(..)) -/
def setS (zs : List Str) : List Str := srtS (dd zs)
theorem fSorted_S {zs : List Str} {P : R → Prop} (h : zs.length < 64) (p : P (.ow (.lst ((srtS zs).map .str)))) : fSorted (.lst (zs.map .str)) P :=
  .inr ⟨zs, rfl, h, fun ys pm so => by rw [srtS_eq pm (sortedS_pw so)]; exact p⟩
theorem fSorted_I {zs : List Int} {P : R → Prop} (p : P (.ow (.lst ((srtI zs).map .int)))) : fSorted (.lst (zs.map .int)) P :=
  .inl ⟨zs, rfl, fun ys pm so => by rw [srtI_eq pm so]; exact p⟩
/-! ### dicts as lists of pairs -/
section
variable {κ α : Type} [DecidableEq κ]
def aget (kvs : List (κ × α)) (k : κ) : Option α := (kvs.find? fun kv => decide (kv.1 = k)).map (·.2)
def aput (kvs : List (κ × α)) (k : κ) (d : α) : List (κ × α) := if (kvs.any fun kv => decide (kv.1 = k)) = true then kvs.map (fun kv => if kv.1 = k then (kv.1, d) else kv) else kvs ++ [(k, d)]
def dkv (kj : κ → Key) (f : α → D) (kvs : List (κ × α)) : List (Key × D) := kvs.map fun kv => (kj kv.1, f kv.2)
variable {kj : κ → Key} {f : α → D}
theorem valD_dkv (hj : ∀ a b, kj a = kj b → a = b) (kvs : List (κ × α)) (k : κ) : valD (dkv kj f kvs) (kj k) = (aget kvs k).map f := by
  unfold valD aget dkv
  induction kvs with
  | nil => rfl
  | cons p r ih =>
    rw [List.map_cons, List.find?_cons, List.find?_cons]
    by_cases h : p.1 = k
    · have h1 : decide (kj p.1 = kj k) = true := by rw [h]; simp
      have h2 : decide (p.1 = k) = true := by simp [h]
      rw [h1, h2]; rfl
    · have h1 : decide (kj p.1 = kj k) = false := decide_eq_false fun z => h (hj _ _ z)
      have h2 : decide (p.1 = k) = false := decide_eq_false h
      rw [h1, h2]; exact ih
theorem putD_dkv (hj : ∀ a b, kj a = kj b → a = b) (kvs : List (κ × α)) (k : κ) (d : α) : putD (dkv kj f kvs) (kj k) (f d) = dkv kj f (aput kvs k d) := by
  have hd : ∀ a : κ, decide (kj a = kj k) = decide (a = k) := fun a => by
    by_cases h : a = k
    · rw [h]; simp
    · rw [decide_eq_false h, decide_eq_false fun z => h (hj _ _ z)]
  have e : ((dkv kj f kvs).any fun kv => decide (kv.1 = kj k)) = (kvs.any fun kv => decide (kv.1 = k)) := by
    unfold dkv
    rw [List.any_map]
    congr 1
    funext kv
    exact hd kv.1
  unfold putD aput
  rw [e]
  split
  · unfold dkv
    rw [List.map_map, List.map_map]
    apply List.map_congr_left
    intro p _
    show (if kj p.1 = kj k then (kj p.1, f d) else (kj p.1, f p.2)) = _
    by_cases h : p.1 = k
    · rw [if_pos (by rw [h])]; simp [h]
    · rw [if_neg fun z => h (hj _ _ z)]; simp [h]
  · unfold dkv
    rw [List.map_append]
    rfl
theorem keys_dkv (kvs : List (κ × α)) : (dkv kj f kvs).map (·.1) = (kvs.map (·.1)).map kj := by unfold dkv; rw [List.map_map, List.map_map]; rfl
theorem dkv_len (kvs : List (κ × α)) : (dkv kj f kvs).length = kvs.length := by simp [dkv]
theorem aget_mem {kvs : List (κ × α)} {k : κ} : (aget kvs k).isSome = true ↔ k ∈ kvs.map (·.1) := by
  unfold aget
  rw [Option.isSome_map, List.find?_isSome, List.mem_map]
  constructor
  · rintro ⟨p, h1, h2⟩; exact ⟨p, h1, of_decide_eq_true h2⟩
  · rintro ⟨p, h1, h2⟩; exact ⟨p, h1, decide_eq_true h2⟩
theorem aget_of {kvs : List (κ × α)} (h : (kvs.map (·.1)).Nodup) {k : κ} {a : α} (m : (k, a) ∈ kvs) : aget kvs k = some a := by
  induction kvs with
  | nil => cases m
  | cons p r ih =>
    unfold aget
    rw [List.find?_cons]
    rw [List.map_cons, List.nodup_cons] at h
    rcases List.mem_cons.mp m with e | m
    · subst e; simp
    · have : ¬ p.1 = k := fun z => h.1 (by rw [z]; exact List.mem_map.mpr ⟨_, m, rfl⟩)
      rw [decide_eq_false this]
      exact ih h.2 m
theorem aget_in {kvs : List (κ × α)} {k : κ} {a : α} (h : aget kvs k = some a) : (k, a) ∈ kvs := by
  unfold aget at h
  cases q : kvs.find? fun kv => decide (kv.1 = k) with
  | none => rw [q] at h; cases h
  | some p =>
    rw [q] at h
    have h1 := List.mem_of_find?_eq_some q
    have h2 := List.find?_some q
    cases h
    have h3 : p.1 = k := of_decide_eq_true h2
    rw [← h3]; exact h1
end
theorem inr_inj : ∀ a b : Str, (Sum.inr a : Key) = Sum.inr b → a = b := fun _ _ h => Sum.inr.inj h
theorem inl_inj : ∀ a b : Int, (Sum.inl a : Key) = Sum.inl b → a = b := fun _ _ h => Sum.inl.inj h
/-! ### comprehensions that map and filter -/
theorem lc_pure {α : Type} {ui : DI} {ug : DG} {ut : DT} {ue : DE} {vs : List Nat} {e : List Sl} {P : R → Prop} (ys : List α) (inj : α → D) (p : α → Bool) (g : α → D) (hi : ∀ Q : List D → Prop, Q (ys.map inj) → ui e Q) (hl : ys.length ≤ 1000000)
    (hb : ∀ y ∈ ys, ∀ (S : D → Prop) (T : Prop), (p y = true → S (g y)) → (p y = false → T) → ug (inj y) (wipeE e vs) fun e2 => ut e2 fun c => if c = true then ue e2 (R.keep S) else T) (k : P (.ow (.lst ((ys.filter p).map g)))) : uLc ui ug ut ue vs e P := by
  refine hi _ ⟨fun i acc => acc = ((ys.take i).filter p).map g, rfl, ?_, ?_⟩
  · rintro i x acc hx rfl
    rw [List.getElem?_map] at hx
    cases q : ys[i]? with
    | none => rw [q] at hx; cases hx
    | some y =>
      rw [q] at hx
      cases hx
      have hm := List.mem_of_getElem? q
      have hlt := get_lt q
      have ht : ys.take (i + 1) = ys.take i ++ [y] := by rw [List.take_add_one, q]; rfl
      refine hb y hm _ _ (fun hp => ⟨?_, ?_⟩) fun hp => ?_
      · have h1 : (((ys.take i).filter p).map g).length ≤ (ys.take i).length := by rw [List.length_map]; exact List.length_filter_le _ _
        have h2 : (ys.take i).length = i := by rw [List.length_take]; omega
        omega
      · show _ = ((ys.take (i + 1)).filter p).map g
        rw [ht, List.filter_append, List.map_append, List.filter_cons, hp]; rfl
      · show _ = ((ys.take (i + 1)).filter p).map g
        rw [ht, List.filter_append, List.map_append, List.filter_cons, hp]; simp
  · rintro acc rfl
    rw [List.length_map, List.take_length]
    exact k
theorem lc_map {α : Type} {ui : DI} {ug : DG} {ue : DE} {vs : List Nat} {e : List Sl} {P : R → Prop} (ys : List α) (inj : α → D) (g : α → D) (hi : ∀ Q : List D → Prop, Q (ys.map inj) → ui e Q) (hl : ys.length ≤ 1000000)
    (hb : ∀ y ∈ ys, ∀ (S : D → Prop), S (g y) → ug (inj y) (wipeE e vs) fun e2 => ue e2 (R.keep S)) (k : P (.ow (.lst (ys.map g)))) : uLc ui ug uYes ue vs e P := by
  refine lc_pure ys inj (fun _ => true) g hi hl (fun y hy S T h _ => ?_) ?_
  · have z := hb y hy S (h rfl)
    unfold uYes
    simpa using z
  · rw [List.filter_eq_self.mpr (by simp)]; exact k
end DL
/-! DL25: rules that look at the value: for x in (list, tuple, text); a[i] and in of any kind; len of anything. -/
namespace DL
open PySem L2 PyProof.Rows
section
variable {X : Cx} {b : Bg} {K : PySem.W.Frag}
/-- what a walked value must be: a list, a tuple, a text -/
def walks (K : PySem.W.Frag) (x : V) (H : Hp) (R : It → Hp → Prop) : Prop :=
  (∃ a xs, x = .ref a ∧ SqL K H a xs ∧ R (Itl K a) H) ∨ (∃ a xs, x = .ref a ∧ SqT K H a xs ∧ R (Itt K a) H) ∨ ∃ z, x = .str z ∧ R (Its z) H
theorem one_it {tg : Expr} {pins : List (Addr × Obj)} {σ : L2.St} {H : Hp} {s : Shared} {R : It → Hp → Prop} {J : It} {tn : Nat → Heap → Prop} {o : Obj} (I : Inv X pins σ H s) (hT : Turn X.prog X.w X.K tg J [s.heap.objs.size] s.heap.objs.size tn) (h0 : tn 0 (s.heap.push o)) (q : R J H) :
    PIE X pins σ tg R (.ref s.heap.objs.size) { s with heap := s.heap.push o } := by
  have J1 : Inv X pins σ H { s with heap := s.heap.push o } := I.kept (t' := s.toks) fun c u e => Heap.get?_push_of_some _ e
  refine ⟨_, _, tn, J, H, rfl, J1, hT, h0, fun c hc => ?_, q⟩
  rw [List.mem_singleton] at hc
  subst hc
  exact I.fpOk (Nat.le_refl _) (I.hok.fresh (Nat.le_refl _))
theorem pi_any {tg l : Expr} {tl : TE} (hl : PE X l tl) : PI X tg l (fun σ H R => tl σ H fun x H1 => walks X.K x H1 R) := by
  constructor
  intro pins s σ H R I h
  refine thn (hl.run pins s σ H _ I h) ?_
  rintro v s1 ⟨x, H1, I1, r1, ⟨a, xs, rfl, hq, q⟩ | ⟨a, xs, rfl, hq, q⟩ | ⟨z, rfl, q⟩⟩
  · cases r1
    obtain ⟨its, _, p, _⟩ := I1.list hq
    exact wpAny_pyIter_list p.isList (one_it I1 (turn_list a _) ⟨_, Heap.get?_push_size _ rfl, rfl, rfl⟩ q)
  · cases r1
    obtain ⟨its, _, p, _⟩ := I1.tuple hq
    exact wpAny_pyIter_tuple (show s1.heap.IsTuple a its.toArray from p) (one_it I1 (turn_tuple a _) ⟨_, Heap.get?_push_size _ rfl, rfl, rfl⟩ q)
  · obtain ⟨t, rfl⟩ := r1
    cases w : z.cps.all (· < 128) with
    | false => exact wpAny_pyIter_wide w (one_it I1 (turn_str _ z t "str_iterator" (.inr rfl)) ⟨_, Heap.get?_push_size _ rfl, rfl, rfl⟩ q)
    | true => exact wpAny_pyIter_ascii w (one_it I1 (turn_str _ z t "str_ascii_iterator" (.inl rfl)) ⟨_, Heap.get?_push_size _ rfl, rfl, rfl⟩ q)
def asQ (P : List D → Prop) : D → Prop
  | .lst xs => P xs
  | .tup xs => P xs
  | .str s => P (signs s)
  | _ => False
def uItQ (u : DE) : DI := fun e P => u e (R.keep (asQ P))
theorem di_any {tg a : Expr} {u : DE} (h : PD X b a u) : PDI X b tg a (uItQ u) := by
  obtain ⟨t, p, l⟩ := h
  refine ⟨_, pi_any p, ?_⟩
  intro L G0 H0 G H σ e P Q g hu k
  refine l L G0 H0 G H σ e _ _ g hu fun v r G1 H1 s1 hr q => ?_
  obtain ⟨d, G2, s2, hd, q⟩ := hr.freeze s1 q
  cases d with
  | lst xs =>
    obtain ⟨a, vs, rfl, ha, hr⟩ := hd
    exact .inl ⟨a, vs, rfl, SqL.of (ex_lst s2.ex ha), k _ _ G2 H1 s2 (jok_list ha hr) q⟩
  | tup xs =>
    obtain ⟨a, vs, rfl, ha, hr⟩ := hd
    exact .inr (.inl ⟨a, vs, rfl, ex_tup s2.ex ha, k _ _ G2 H1 s2 (jok_tup ha hr) q⟩)
  | str z => cases hd; exact .inr (.inr ⟨z, rfl, k _ _ G2 H1 s2 jok_str q⟩)
  | _ => exact q.elim
theorem e_asQ1 {P : List D → Prop} {xs : List D} : asQ P (.lst xs) = P xs := rfl
theorem e_asQ2 {P : List D → Prop} {xs : List D} : asQ P (.tup xs) = P xs := rfl
theorem e_asQ3 {P : List D → Prop} {s : Str} : asQ P (.str s) = P (signs s) := rfl
/-! ### a[i], in: dicts too -/
theorem op_din (hu : X.A.units + 1 < cLine) : OpR X (compareOp .In) (fun y x H Q => ∃ a o, x = .ref a ∧ DGet H a y o ∧ Q (.bl o.isSome) H) := by
  rintro pins s σ H y x iv u Q I ry rx ⟨a, o, rfl, g, q⟩
  cases rx
  exact L2.d_in hu I g ry fun s3 I3 => ⟨.bl o.isSome, H, I3, rfl, q⟩
theorem op_dnotin (hu : X.A.units + 1 < cLine) : OpR X (compareOp .NotIn) (fun y x H Q => ∃ a o, x = .ref a ∧ DGet H a y o ∧ Q (.bl (!o.isSome)) H) := by
  rintro pins s σ H y x iv u Q I ry rx ⟨a, o, rfl, g, q⟩
  cases rx
  exact L2.d_notIn hu I g ry fun s3 I3 => ⟨.bl (!o.isSome), H, I3, rfl, q⟩
theorem ix_dict (hu : X.A.units + 1 < cLine) : IxR X (fun x y H Q => ∃ a v, x = .ref a ∧ DGet H a y (some v) ∧ Q v H) := by
  rintro value slice pins s σ H x y v u Q I rx ry ⟨a, z, rfl, g, q⟩ hs
  cases rx
  have hT := dict_typeIs I g
  unfold subscriptTail
  refine wpAny_bind ?_
  rw [getitemInPython_of_ne hT.not_modules]
  refine wpAny_bind (wpAny_specialOf hT PySem.F.slot_dict_getitem.lookup ?_)
  have last : wpAny (model X.prog X.w) X.A (subscripted slice false (.ref a) u) (fun r s₃ => wpAny (model X.prog X.w) X.A (letTemporaryGo value (.ref a) r >>= fun _ => pure r) (EP X pins σ Q) X.xe s₃) X.xe s := by
    rw [hs]
    exact wpAny_operating (d_getItem hu I g ry fun w' s3 I3 rw' => wpAny_bind (wpAny_letTemporaryGo (wpAny_pure ⟨z, H, I3, rw', q⟩)))
  first
    | exact wpAny_bind (wpAny_pure (wpAny_bind last))
    | exact wpAny_pure (wpAny_bind last)
    | exact wpAny_bind last
theorem ixR_or {r r' : R2} (h : IxR X r) (h' : IxR X r') : IxR X (fun x y H Q => r x y H Q ∨ r' x y H Q) := by
  rintro value slice pins s σ H x y v u Q I rx ry (q | q) hs
  · exact h value slice pins s σ H x y v u Q I rx ry q hs
  · exact h' value slice pins s σ H x y v u Q I rx ry q hs
def fAt : D → D → (R → Prop) → Prop
  | .dk kvs, i, P => ∃ k, keyD i = some k ∧ orF (fun v => P (.sh v)) (valD kvs k)
  | d, i, P => fIx d i P
theorem dget_top {G H : Hp} {kvs : List (Key × D)} {i : D} {k : Key} {x y : V} (h1 : Top K G H (.dk kvs) x) (h2 : Top K G H i y) (hk : keyD i = some k) : ∃ a o, x = .ref a ∧ DGet H a y o ∧ ((valD kvs k = none ∧ o = none) ∨ ∃ d v, valD kvs k = some d ∧ o = some v ∧ Rep K G d v) := by
  obtain ⟨a, vs, rfl, hr, hK⟩ := h1
  obtain rfl := keyD_top hk h2
  rcases hK.get (k := k) with ⟨q1, q2⟩ | ⟨d, v, q1, q2, q3⟩
  · exact ⟨a, none, rfl, by rw [← q2]; exact .inl ⟨vs, k, hr, rfl, rfl⟩, .inl ⟨q1, rfl⟩⟩
  · exact ⟨a, some v, rfl, by rw [← q2]; exact .inl ⟨vs, k, hr, rfl, rfl⟩, .inr ⟨d, v, q1, rfl, q3⟩⟩
theorem lo_at : LO K (fun x y H Q => rIx K x y H Q ∨ (fun x y H Q => ∃ a v, x = .ref a ∧ DGet H a y (some v) ∧ Q v H) x y H Q) fAt := by
  intro b L G0 H0 G H σ e d1 d2 x y P Q g h1 h2 hf k
  unfold fAt at hf
  split at hf
  · obtain ⟨kk, hk, q⟩ := hf
    obtain ⟨w, hw, q⟩ := orF_of q
    obtain ⟨a, o, rfl, hg, ⟨z, _⟩ | ⟨d, v, z1, rfl, z3⟩⟩ := dget_top h1 h2 hk
    · rw [hw] at z; cases z
    · rw [hw] at z1
      cases z1
      exact .inr ⟨a, v, rfl, hg, k v (.sh _) G H (Stp.refl g.ex) z3 q⟩
  · exact .inl (lo_ix b L G0 H0 G H σ e _ _ x y P Q g h1 h2 hf k)
theorem d_at {a c : Expr} {u1 u2 : DE} {pos : Pos} (hu : X.A.units + 1 < cLine) (h1 : PD X b a u1) (h2 : PD X b c u2) (hs : PlainIx c := by exact fun _ _ => rfl) : PD X b (.Subscript a c pos) (uBin fAt u1 u2) := by
  obtain ⟨t1, p1, l1⟩ := h1
  obtain ⟨t2, p2, l2⟩ := h2
  exact ⟨_, pe_ix (ixR_or ix_seq (ix_dict hu)) p1 p2 hs, le_bin lo_at l1 l2⟩
theorem e_at1 {xs : List D} {i : D} {P : R → Prop} : fAt (.lst xs) i P = fIx (.lst xs) i P := rfl
theorem e_at2 {xs : List D} {i : D} {P : R → Prop} : fAt (.tup xs) i P = fIx (.tup xs) i P := rfl
theorem e_at3 {z : Str} {i : D} {P : R → Prop} : fAt (.str z) i P = fIx (.str z) i P := rfl
theorem at_I {kvs : List (Key × D)} {k : Int} {d : D} {P : R → Prop} (h : valD kvs (.inl k) = some d) (p : P (.sh d)) : fAt (.dk kvs) (.int k) P := ⟨_, rfl, by rw [h]; exact p⟩
theorem at_S {kvs : List (Key × D)} {k : Str} {d : D} {P : R → Prop} (h : valD kvs (.inr k) = some d) (p : P (.sh d)) : fAt (.dk kvs) (.str k) P := ⟨_, rfl, by rw [h]; exact p⟩
def fInU (neg : Bool) (d1 d2 : D) (P : R → Prop) : Prop := match d2 with
  | .dk kvs => ∃ k, keyD d1 = some k ∧ P (.sh (.bl (if neg then (valD kvs k).isNone else (valD kvs k).isSome)))
  | _ => if neg then fNotIn d1 d2 P else fIn d1 d2 P
theorem lo_inU : LO K (fun x y H Q => (rIn K false x y H Q ∨ (fun x y H Q => ∃ (c : Nat) (z : Str), x = .str ⟨#[c]⟩ ∧ y = .str z ∧ Q (.bl (decide (c ∈ z.cps.toList))) H) x y H Q) ∨ (fun y x H Q => ∃ a o, x = .ref a ∧ DGet H a y o ∧ Q (.bl o.isSome) H) x y H Q) (fInU false) := by
  intro b L G0 H0 G H σ e d1 d2 x y P Q g h1 h2 hf k
  unfold fInU at hf
  split at hf
  · obtain ⟨kk, hk, q⟩ := hf
    obtain ⟨a, o, rfl, hg, ⟨z, rfl⟩ | ⟨d, v, z1, rfl, z3⟩⟩ := dget_top h2 h1 hk
    · rw [z] at q
      exact .inr ⟨a, none, rfl, hg, k _ (.sh (.bl false)) G H (Stp.refl g.ex) rfl q⟩
    · rw [z1] at q
      exact .inr ⟨a, some v, rfl, hg, k _ (.sh (.bl true)) G H (Stp.refl g.ex) rfl q⟩
  · exact .inl (lo_in b L G0 H0 G H σ e _ _ x y P Q g h1 h2 hf k)
theorem lo_notinU : LO K (fun x y H Q => (rIn K true x y H Q ∨ (fun x y H Q => ∃ (c : Nat) (z : Str), x = .str ⟨#[c]⟩ ∧ y = .str z ∧ Q (.bl (!decide (c ∈ z.cps.toList))) H) x y H Q) ∨ (fun y x H Q => ∃ a o, x = .ref a ∧ DGet H a y o ∧ Q (.bl (!o.isSome)) H) x y H Q) (fInU true) := by
  intro b L G0 H0 G H σ e d1 d2 x y P Q g h1 h2 hf k
  unfold fInU at hf
  split at hf
  · obtain ⟨kk, hk, q⟩ := hf
    obtain ⟨a, o, rfl, hg, ⟨z, rfl⟩ | ⟨d, v, z1, rfl, z3⟩⟩ := dget_top h2 h1 hk
    · rw [z] at q
      exact .inr ⟨a, none, rfl, hg, k _ (.sh (.bl true)) G H (Stp.refl g.ex) rfl q⟩
    · rw [z1] at q
      exact .inr ⟨a, some v, rfl, hg, k _ (.sh (.bl false)) G H (Stp.refl g.ex) rfl q⟩
  · exact .inl (lo_notin b L G0 H0 G H σ e _ _ x y P Q g h1 h2 hf k)
theorem d_inU {a c : Expr} {u1 u2 : DE} {pos : Pos} (hu : X.A.units + 1 < cLine) (h1 : PD X b a u1) (h2 : PD X b c u2) (hm : behindInMarks .In c = false := by with_unfolding_all rfl) : PD X b (.Compare a [.In] [c] pos) (uBin (fInU false) u1 u2) := d_cmp (opR_or (opR_or op_in_seq op_in_sign) (op_din hu)) lo_inU hm h1 h2
theorem dt_inU {a c : Expr} {u1 u2 : DE} {pos : Pos} (hu : X.A.units + 1 < cLine) (h1 : PD X b a u1) (h2 : PD X b c u2) (hm : behindInMarks .In c = false := by with_unfolding_all rfl) : PDT X b (.Compare a [.In] [c] pos) (uTest (uBin (fInU false) u1 u2)) := dt_cmp (opR_or (opR_or op_in_seq op_in_sign) (op_din hu)) lo_inU hm h1 h2
theorem dt_notinU {a c : Expr} {u1 u2 : DE} {pos : Pos} (hu : X.A.units + 1 < cLine) (h1 : PD X b a u1) (h2 : PD X b c u2) (hm : behindInMarks .NotIn c = false := by with_unfolding_all rfl) : PDT X b (.Compare a [.NotIn] [c] pos) (uTest (uBin (fInU true) u1 u2)) := dt_cmp (opR_or (opR_or op_notIn_seq op_notIn_sign) (op_dnotin hu)) lo_notinU hm h1 h2
theorem e_in1 {d : D} {xs : List D} {P : R → Prop} : fInU false d (.lst xs) P = fIn d (.lst xs) P := rfl
theorem e_in2 {d : D} {xs : List D} {P : R → Prop} : fInU false d (.tup xs) P = fIn d (.tup xs) P := rfl
theorem e_in3 {d : D} {z : Str} {P : R → Prop} : fInU false d (.str z) P = fIn d (.str z) P := rfl
theorem e_nin1 {d : D} {xs : List D} {P : R → Prop} : fInU true d (.lst xs) P = fNotIn d (.lst xs) P := rfl
theorem e_nin2 {d : D} {xs : List D} {P : R → Prop} : fInU true d (.tup xs) P = fNotIn d (.tup xs) P := rfl
theorem e_nin3 {d : D} {z : Str} {P : R → Prop} : fInU true d (.str z) P = fNotIn d (.str z) P := rfl
/-! ### methods of a list that only look -/
def uML (f : D → D → (R → Prop) → Prop) (uo u : DE) : DE := fun e P => uo e fun r1 => (∃ xs, r1.look = .lst xs) ∧ u e fun r2 => f r1.look r2.look P
end
end DL
/-! DL26: plain tools: loops over typed lists; sides. -/
namespace DL
open PySem L2 PyProof.Rows
theorem for_pre {α : Type} {ui : DI} {ug : DG} {ub : DS} {DD : DEnds} {e : List Sl} (ys : List α) (inj : α → D) (W : List α → List Sl → Prop) (hi : ∀ Q : List D → Prop, Q (ys.map inj) → ui e Q) (h0 : W [] e)
    (hs : ∀ (pre : List α) (y : α) (post : List α), ys = pre ++ y :: post → ∀ e', W pre e' → ug (inj y) e' fun e2 => ub { DD with nx := W (pre ++ [y]), ct := W (pre ++ [y]), bk := DD.nx } e2) (hd : ∀ e', W ys e' → DD.nx e') : uFor ui ug ub DD e := by
  refine hi _ ⟨fun i e' => W (ys.take i) e', h0, ?_, ?_⟩
  · rintro i x e' hx w
    rw [List.getElem?_map] at hx
    cases q : ys[i]? with
    | none => rw [q] at hx; cases hx
    | some y =>
      rw [q] at hx
      cases hx
      have hlt := get_lt q
      have ht : ys.take (i + 1) = ys.take i ++ [y] := by rw [List.take_add_one, q]; rfl
      have hy : ys[i] = y := by rw [List.getElem?_eq_getElem hlt] at q; exact Option.some.inj q
      have hd : ys = ys.take i ++ y :: ys.drop (i + 1) := by
        rw [← hy, ← List.drop_eq_getElem_cons hlt, List.take_append_drop]
      have z := hs (ys.take i) y (ys.drop (i + 1)) hd e' w
      rw [← ht] at z
      exact z
  · intro e' w
    rw [List.length_map, List.take_length] at w
    exact hd e' w
/-- a loop that only changes what it says -/
theorem for_nums {ui : DI} {ug : DG} {ub : DS} {DD : DEnds} {e : List Sl} (n : Nat) (W : Nat → List Sl → Prop) (hi : ∀ Q : List D → Prop, Q (nums 0 n) → ui e Q) (h0 : W 0 e)
    (hs : ∀ i, i < n → ∀ e', W i e' → ug (.int (i : Int)) e' fun e2 => ub { DD with nx := W (i + 1), ct := W (i + 1), bk := DD.nx } e2) (hd : ∀ e', W n e' → DD.nx e') : uFor ui ug ub DD e := by
  refine hi _ ⟨W, h0, ?_, ?_⟩
  · rintro i x e' hx w
    obtain ⟨h1, rfl⟩ := nums_get' hx
    exact hs i h1 e' w
  · intro e' w
    rw [nums_len] at w
    exact hd e' w
/-! ### data that may be compared -/
def okN : Nat → D → Bool
  | _, .non => true
  | _, .bl _ => true
  | _, .int _ => true
  | _, .str s => s.cps.all (· < 0x110000)
  | n + 1, .lst xs => xs.all (okN n)
  | n + 1, .tup xs => xs.all (okN n)
  | _, _ => false
theorem okN_py : ∀ (n : Nat) (d : D), okN n d = true → pure? d = true ∧ PyData.canLay0 (toPy d) = true ∧ PyData.depth (toPy d) ≤ n := by
  intro n
  induction n with
  | zero =>
    intro d h
    cases d <;> first | exact ⟨rfl, rfl, Nat.le_refl _⟩ | exact ⟨rfl, h, Nat.le_refl _⟩ | cases h
  | succ n ih =>
    have all : ∀ xs : List D, xs.all (okN n) = true → pureL xs = true ∧ PyData.canLayAll0 (toPyL xs) = true ∧ PyData.depthAll (toPyL xs) ≤ n := by
      intro xs
      induction xs with
      | nil => intro _; exact ⟨rfl, rfl, Nat.zero_le _⟩
      | cons x xs ih2 =>
        intro h
        rw [List.all_cons, Bool.and_eq_true] at h
        obtain ⟨a1, a2, a3⟩ := ih x h.1
        obtain ⟨b1, b2, b3⟩ := ih2 h.2
        refine ⟨?_, ?_, ?_⟩
        · show (pure? x && pureL xs) = true
          rw [a1, b1]; rfl
        · show (PyData.canLay0 (toPy x) && PyData.canLayAll0 (toPyL xs)) = true
          rw [a2, b2]; rfl
        · show max (PyData.depth (toPy x)) (PyData.depthAll (toPyL xs)) ≤ n
          omega
    intro d h
    cases d with
    | lst xs =>
      obtain ⟨h1, h2, h3⟩ := all xs h
      refine ⟨h1, h2, ?_⟩
      show PyData.depthAll (toPyL xs) + 1 ≤ n + 1
      omega
    | tup xs =>
      obtain ⟨h1, h2, h3⟩ := all xs h
      refine ⟨h1, h2, ?_⟩
      show PyData.depthAll (toPyL xs) + 1 ≤ n + 1
      omega
    | non => exact ⟨rfl, rfl, Nat.zero_le _⟩
    | bl _ => exact ⟨rfl, rfl, Nat.zero_le _⟩
    | int _ => exact ⟨rfl, rfl, Nat.zero_le _⟩
    | str _ => exact ⟨rfl, h, Nat.zero_le _⟩
    | _ => cases h
theorem okPy_N {n : Nat} {d : D} (h : okN n d = true) (hn : n ≤ 64) : okPy d := by
  obtain ⟨h1, h2, h3⟩ := okN_py n d h
  refine ⟨h1, ?_⟩
  show (PyData.canLay0 (toPy d) && decide (PyData.depth (toPy d) ≤ 64)) = true
  rw [h2, decide_eq_true (by omega)]; rfl
theorem eqv_self {n : Nat} {d : D} (h : okN n d = true) : PyData.eqv (toPy d) (toPy d) = true := SeqAt.eqv_refl _ (okN_py n d h).2.1
/-- d == d, d != d -/
theorem eq_self {n : Nat} {d : D} {P : R → Prop} (h : okN n d = true) (hn : n ≤ 64) (p : P (.sh (.bl true))) : fEq d d P := by
  unfold fEq
  cases q : eqF d d with
  | none => exact ⟨okPy_N h hn, okPy_N h hn, by rw [eqv_self h]; exact p⟩
  | some c =>
    have : c = true := by
      cases d <;> first | (cases q; done) | (simp [eqF] at q; exact q.symm) | (simp [eqF] at q; exact q)
    subst this
    exact p
end DL
/-! DL27: plain mathematics of sums of lists of texts. -/
namespace Tm
open PySem L2 DL PyProof.Rows
end Tm
/-! DL28: dict comprehensions; walks over items and values of dicts; what is looked at: a[i], o.f. -/
namespace DL
open PySem L2 PyProof.Rows
section
variable {X : Cx} {b : Bg} {K : PySem.W.Frag}
/-- {k: v for ..} -/
def uDc (ui : DI) (ug : DG) (ut : DT) (uk ue : DE) (vs : List Nat) : DE := fun e P => ui e fun xs => ∃ W : Nat → List (Key × D) → Prop, W 0 [] ∧
  (∀ (i : Nat) x acc, xs[i]? = some x → W i acc → ug x (wipeE e vs) fun e2 => ut e2 fun c => if c = true then uk e2 (fun rk => ∃ k, keyD rk.look = some k ∧ ue e2 (R.keep fun d => acc.length < 1000000 ∧ W (i + 1) (putD acc k d))) else W (i + 1) acc) ∧ ∀ acc, W xs.length acc → P (.ow (.dk acc))
theorem dcD_core {L : Lk} {G0 H0 G H : Hp} {σ : L2.St} {e : List Sl} {P : R → Prop} {Q : VK} {J : It} {xs : List D} {g : TG} {js : List Nat} {ug : DG} {tt : TT} {ut : DT} {tk te : TE} {uk ue : DE} {vs : List Nat} (hg : LG K b js g ug) (ht : LT K b tt ut) (hk : LE K b tk uk) (he : LE K b te ue) (hj : ∀ j ∈ js, j ∈ vs)
    (g1 : Good K b L G0 H0 G H σ e) (hJ : JOk K b L G J xs)
    (q : ∃ W : Nat → List (Key × D) → Prop, W 0 [] ∧ (∀ (i : Nat) x acc, xs[i]? = some x → W i acc → ug x (wipeE e vs) fun e2 => ut e2 fun c => if c = true then uk e2 (fun rk => ∃ k, keyD rk.look = some k ∧ ue e2 (R.keep fun d => acc.length < 1000000 ∧ W (i + 1) (putD acc k d))) else W (i + 1) acc) ∧ ∀ acc, W xs.length acc → P (.ow (.dk acc)))
    (k : ∀ v r G' H', Stp b [] G H G' H' → RepR K b H σ e G' H' r v → P r → Q v H') : tDc (fun _ H R => R J H) g tt tk te vs σ H Q := by
  obtain ⟨W, w0, hs, hd⟩ := q
  intro Dl hD
  have nb : b.a ≠ some Dl := g1.nb hD
  refine ⟨fun i m H' => m = xs.length - i ∧ i ≤ xs.length ∧ ∃ G' acc va, Stp b [] G H G' H' ∧ G' Dl = none ∧ H' Dl = some (.dK va) ∧ RepK K G' acc va ∧ W i acc,
    ⟨xs.length, by simp, Nat.zero_le _, G, [], [], Stp.made g1.ex hD, g1.ex.none hD, upd_same, rfl, w0⟩, ?_⟩
  rintro i m H1 ⟨rfl, hi, G', acc, va, st, hgD, hHD, hra, w⟩
  have gg := (g1.step st).wipe vs
  obtain ⟨j1, j2⟩ := hJ G' H1 st.g st.ex gg.lk i
  by_cases c : i < xs.length
  · obtain ⟨go, y⟩ := j1 xs[i] (by simp [c])
    refine .inr ⟨go, fun H' => ∃ G' acc va, Stp b [] G H G' H' ∧ G' Dl = none ∧ H' Dl = some (.dK va) ∧ RepK K G' acc va ∧ W (i + 1) acc, fun H' q => ⟨xs.length - (i + 1), by omega, rfl, by omega, q⟩, fun v H2 hy => ?_⟩
    obtain ⟨G2, s2, hx⟩ := y v H2 hy
    have g2 := gg.step s2
    refine hg L G0 H0 G2 H2 _ _ _ v _ _ g2 hx (hs i xs[i] acc (by simp [c]) w) fun σ3 e3 g3 w3 q3 => ⟨?_, ?_⟩
    · rw [w3 vs hj, wipe_wipe]
    · refine ht L G0 H0 G2 H2 σ3 e3 _ _ g3 q3 fun c3 G4 H4 s4 q4 => ?_
      have g4 := g3.step s4
      have s14 := (st.trans s2).trans s4
      have d2 : G2 Dl = none := s2.new Dl nb (by rw [hHD]; simp) hgD
      have d4 : G4 Dl = none := s4.new Dl nb (by rw [s2.fr0 nb hHD]; simp) d2
      have h4 : H4 Dl = some (.dK va) := s4.fr0 nb (s2.fr0 nb hHD)
      have r4 : RepK K G4 acc va := (hra.mono s2.g).mono s4.g
      cases c3 with
      | false => exact ⟨G4, acc, va, s14, d4, h4, r4, q4⟩
      | true =>
        refine hk L G0 H0 G4 H4 σ3 e3 _ _ g4 q4 fun v5 r5 G5 H5 s5 hr5 q5 => ?_
        obtain ⟨kk, hkk, q5⟩ := q5
        have g5 := g4.step s5
        have ek := keyD_top hkk (hr5.top g5)
        have d5 : G5 Dl = none := s5.new Dl nb (by rw [h4]; simp) d4
        have h5 : H5 Dl = some (.dK va) := s5.fr0 nb h4
        refine he L G0 H0 G5 H5 σ3 e3 _ _ g5 q5 fun v6 r6 G6 H6 s6 hr6 q6 => ?_
        obtain ⟨d, G7, s7, hd7, hl, q7⟩ := hr6.freeze s6 q6
        have d7 : G7 Dl = none := s7.new Dl nb (by rw [h5]; simp) d5
        have h7 : H6 Dl = some (.dK va) := s7.fr0 nb h5
        have ra : RepK K G7 acc va := (r4.mono s5.g).mono s7.g
        exact ⟨va, kk, ek, h7, by rw [ra.length]; exact lt_line hl, G7, putD acc kk d, _, ((s14.trans s5).trans s7).mut nb hD d7, d7, upd_same, ra.put kk hd7, q7⟩
  · have e1 : i = xs.length := by omega
    subst e1
    refine .inl ⟨j2 (Nat.le_refl _), ?_⟩
    exact k _ (.ow (.dk acc)) G' H1 st ⟨Dl, _, rfl, nb, hD, hgD, hHD, va, rfl, hra⟩ (hd acc w)
theorem d_dc {kx vx tg iter : Expr} {ifs : List Expr} {scope : Scope} {own : List (Str × Nat)} {pos : Pos} {ui : DI} {js : List Nat} {ug : DG} {ut : DT} {uk ue : DE} (hN : X.N.Nodup) (ok : blkC X.N X.env.scope scope own = true) (hj : ∀ j ∈ js, j ∈ own.map (·.2)) (hi : PDI X b tg iter ui)
    (hg : Blk X scope fun Y => PDG Y b tg js ug) (ht : Blk X scope fun Y => PDTs Y b ifs ut) (hk : Blk X scope fun Y => PD Y b kx uk) (he : Blk X scope fun Y => PD Y b vx ue) (hc : X.calm = true := by rfl) (hs : ∀ x, foldedSetIterable iter X.env x = pure x := by intro _; rfl) :
    PD X b (.DictComp kx vx [⟨tg, iter, ifs, 0⟩] scope pos) (uDc ui ug ut uk ue (own.map (·.2))) := by
  obtain ⟨wi, p1, l1⟩ := hi
  obtain ⟨g, p2, l2⟩ := blk_g hg
  obtain ⟨tt, p3, l3⟩ := blk_t ht
  obtain ⟨tk, p4, l4⟩ := blk_e hk
  obtain ⟨te, p5, l5⟩ := blk_e he
  refine ⟨_, pe_dc hc hN p1 (blkOk_by ok) p2 p3 p4 p5 hs, ?_⟩
  intro L G0 H0 G H σ e P Q gd hu k
  refine l1 L G0 H0 G H σ e _ _ gd hu fun J xs G1 H1 s1 hJ q => ?_
  exact dcD_core l2 l3 l4 l5 hj (gd.step s1) hJ q fun v r G' H' s hr hp => k v r G' H' (s1.trans s) (hr.back fun a hb z => s1.back a hb z) hp
/-! ### dicts that are walked -/
def JokW (K : PySem.W.Frag) (b : Bg) (J : Addr → Obj → List (Key × V) → It) (img : Key × D → D) : Prop :=
  ∀ {L : Lk} {G1 : Hp} {a : Addr} {od : Obj} {kvs : List (Key × D)} {vs : List (Key × V)}, (a, od, HO.dK vs) ∈ L → RepK K G1 kvs vs → JOk K b L G1 (J a od vs) (kvs.map img)
theorem kD_rep {G : Hp} (k : Key) : Rep K G (kD k) (kV k) := by cases k <;> rfl
theorem jokW_items : JokW K b Iti (fun kv => .tup [kD kv.1, kv.2]) := fun {L G1 a od kvs vs} m hr G H sub ex lk i => by
  have fz := lk a od _ m
  refine ⟨fun x hx => ?_, fun hi => ⟨fz, by rw [List.length_map] at hi; rw [hr.length]; exact hi⟩⟩
  rw [List.getElem?_map] at hx
  cases e : kvs[i]? with
  | none => rw [e] at hx; cases hx
  | some p =>
    rw [e] at hx
    cases hx
    obtain ⟨k, d⟩ := p
    obtain ⟨v, hv, hd⟩ := repK_at hr e
    refine ⟨⟨fz, get_lt hv⟩, fun u H' hy => ?_⟩
    obtain ⟨T, k', v', h1, rfl, hT, rfl⟩ := hy
    rw [hv] at h1
    cases h1
    refine ⟨L2.upd G T (.tup [kV k, v]), Stp.laid ex hT, T, [kV k, v], rfl, .inl upd_same, kV k, [v], rfl, kD_rep k, v, [], rfl, ?_, rfl⟩
    exact (hd.mono sub).mono (sub_upd (ex.none hT))
/-- a walked dict that stands still -/
def uItW (ud : List Sl → D → Prop) (img : Key × D → D) : DI := fun e P => ∃ kvs, ud e (.dk kvs) ∧ P (kvs.map img)
abbrev WalksBy (t : TE) (wi : TI) (J : Addr → Obj → List (Key × V) → It) : Prop := ∀ σ H R, (t σ H fun x H1 => ∃ d o kvs, x = .ref d ∧ H1 d = some (.frz o (.dK kvs)) ∧ R (J d o kvs) H1) → wi σ H R
theorem le_walk {t : TE} {ud : List Sl → D → Prop} {J : Addr → Obj → List (Key × V) → It} {img : Key × D → D} {wi : TI} {Bd : It → L2.St → Hp → VK → Prop} {ub : List D → DE} (hv : LV K b t ud) (hJ : JokW K b J img) (hw : WalksBy t wi J)
    (core : ∀ (L : Lk) (G0 H0 G H : Hp) (σ : L2.St) (e : List Sl) (P : R → Prop) (Q : VK) (J : It) (xs : List D), Good K b.q L G0 H0 G H σ e → JOk K b.q L G J xs → ub xs e P → (∀ v r G' H', Stp b [] G H G' H' → RepR K b H σ e G' H' r v → P r → Q v H') → Bd J σ H Q) :
    LE K b (fun σ H Q => tLockE (fun σ H Q => wi σ H fun J H1 => Bd J σ H1 Q) σ H Q ∨ (wi σ H fun J H1 => Bd J σ H1 Q)) (fun e P => ∃ kvs, ud e (.dk kvs) ∧ ub (kvs.map img) e P) := by
  intro L G0 H0 G H σ e P Q gd hu k
  obtain ⟨kvs, hud, q⟩ := hu
  obtain ⟨v, hrep, use⟩ := hv L G0 H0 G H σ e _ gd hud
  obtain ⟨a, ws, rfl, hG, hr⟩ := hrep
  have nba : b.a ≠ some a := fun z => by
    obtain ⟨h1, _⟩ := gd.bag a z
    rw [hG] at h1; cases h1
  rcases gd.ex.old a _ hG with hH | ⟨_, od, _, hH⟩
  · refine .inl ⟨a, .dK ws, hH, trivial, fun od => ?_⟩
    have gl := gd.lock hG hH od
    refine hw _ _ _ (use _ _ _ _ _ gl.toGood0 ⟨a, od, ws, rfl, upd_same, ?_⟩)
    refine core _ _ _ _ _ _ _ P _ _ _ gl (hJ List.mem_cons_self hr) q fun v r G' H' s hr hp => ?_
    obtain ⟨h1, s'⟩ := stp_unlock s gd.ex hG hH nba
    refine ⟨h1, k v r G' _ s' ?_ hp⟩
    have hg' : G' a ≠ none := by rw [s.g _ _ hG]; simp
    refine (RepR.unlock' (L := L) (G0 := G0) (H0 := H0) hr hg').back fun c hb z => ?_
    by_cases w : c = a
    · subst w; rw [upd_same] at z; cases z
    · rw [upd_ne w] at z; exact z
  · have gl := gd.note hH
    exact .inr (hw _ _ _ (use _ _ _ _ _ gl.toGood0 ⟨a, od, ws, rfl, hH, core _ _ _ _ _ _ _ P _ _ _ gl (hJ List.mem_cons_self hr) q k⟩))
theorem d_lcW {elt tg iter : Expr} {ifs : List Expr} {scope : Scope} {own : List (Str × Nat)} {pos : Pos} {t : TE} {wi : TI} {J : Addr → Obj → List (Key × V) → It} {img : Key × D → D} {ud : List Sl → D → Prop} {js : List Nat} {ug : DG} {ut : DT} {ue : DE} (hN : X.N.Nodup) (ok : blkC X.N X.env.scope scope own = true) (hj : ∀ j ∈ js, j ∈ own.map (·.2))
    (hi : PI X tg iter wi) (hw : WalksBy t wi J) (hJ : JokW X.K b J img) (hv : LV X.K b t ud)
    (hg : Blk X scope fun Y => PDG Y b.q tg js ug) (ht : Blk X scope fun Y => PDTs Y b.q ifs ut) (he : Blk X scope fun Y => PD Y b.q elt ue) (hc : X.calm = true := by rfl) (hs : ∀ x, foldedSetIterable iter X.env x = pure x := by intro _; rfl) :
    PD X b (.ListComp elt [⟨tg, iter, ifs, 0⟩] scope pos) (uLc (uItW ud img) ug ut ue (own.map (·.2))) := by
  obtain ⟨g, p2, l2⟩ := blk_g hg
  obtain ⟨tt, p3, l3⟩ := blk_t ht
  obtain ⟨te, p4, l4⟩ := blk_e he
  have pe := pe_lc (pos := pos) hc hN hi (blkOk_by ok) p2 p3 p4 hs
  exact ⟨_, pe_or (pe_lock pe) pe, le_walk hv hJ hw fun L G0 H0 G H σ e P Q J xs gd hJ q k => lc_core l2 l3 l4 hj gd k (Stp.refl gd.ex) hJ q⟩
/-! ### things looked at -/
theorem pv_fld {C : Addr} {f : Str} {a : Expr} {ud : List Sl → D → Prop} {pos : Pos} (c : Cls X.K C) (n : NoAttr X.K C f) (h : PV X b a ud) (hb : attributeBase a f X.env (eval a X.env) = eval a X.env := by rfl) : PV X b (.Attribute a f pos) (fun e d => ∃ fs, ud e (.obj C fs) ∧ fs.lookup f = some d) := by
  obtain ⟨t, p1, l1⟩ := h
  refine ⟨_, pe_fld p1 hb, ?_⟩
  rintro L G0 H0 G H σ e d g ⟨fs, hu, hd⟩
  obtain ⟨v, hv, use⟩ := l1 L G0 H0 G H σ e _ g hu
  obtain ⟨a, dx, vs, rfl, ha, hr⟩ := hv
  obtain ⟨w, hw, hw2⟩ := hr.get hd
  refine ⟨w, hw2, fun L' G0' H0' H' Q g' q => use L' G0' H0' H' _ g' ?_⟩
  rcases g'.ex.old a _ ha with z | ⟨_, _, z, _⟩
  · exact ⟨a, C, dx, vs, w, rfl, z, c, n, hw, q⟩
  · cases z
end
end DL
/-! DL29: walks in one piece; methods of the text's classes where they stand. -/
namespace DL
open PySem L2 PyProof.Rows
section
variable {X : Cx} {b : Bg} {K : PySem.W.Frag}
structure WalkE (X : Cx) (b : Bg) (tg iter : Expr) (ud : List Sl → D → Prop) (img : Key × D → D) : Prop where
  ex : ∃ t wi J, PI X tg iter wi ∧ WalksBy t wi J ∧ JokW X.K b J img ∧ LV X.K b t ud
def vAt (n : Nat) (ud : List Sl → D → Prop) : List Sl → D → Prop := fun e d => ∃ xs, ud e (.tup xs) ∧ xs[n]? = some d
def vFld (C : Addr) (f : Str) (ud : List Sl → D → Prop) : List Sl → D → Prop := fun e d => ∃ fs, ud e (.obj C fs) ∧ fs.lookup f = some d
theorem pv_fldE {C : Addr} {f : Str} {a : Expr} {ud : List Sl → D → Prop} {pos : Pos} (c : Cls X.K C) (n : NoAttr X.K C f) (h : PV X b a ud) (hb : attributeBase a f X.env (eval a X.env) = eval a X.env := by rfl) : PV X b (.Attribute a f pos) (vFld C f ud) := pv_fld c n h hb
theorem walk_items {a : Expr} {ud : List Sl → D → Prop} {elts : List Expr} {kk : Nat} {tpos apos cpos : Pos} (h : PV X b a ud) (hbase : attributeBase a "items" X.env (eval a X.env) = eval a X.env := by rfl) (hline : (apos.endLine == cpos.line) = true := by rfl) :
    WalkE X b (.Tuple elts kk tpos) (.Call (.Attribute a "items" apos) [] [] cpos) ud (fun kv => .tup [kD kv.1, kv.2]) := by
  obtain ⟨t, p, l⟩ := h
  exact ⟨t, _, Iti, pi_items p hbase hline, fun _ _ _ h => h, jokW_items, l⟩
theorem d_lcV {elt tg iter : Expr} {ifs : List Expr} {scope : Scope} {own : List (Str × Nat)} {pos : Pos} {img : Key × D → D} {ud : List Sl → D → Prop} {js : List Nat} {ug : DG} {ut : DT} {ue : DE} (hN : X.N.Nodup) (ok : blkC X.N X.env.scope scope own = true) (hj : ∀ j ∈ js, j ∈ own.map (·.2)) (hw : WalkE X b tg iter ud img)
    (hg : Blk X scope fun Y => PDG Y b.q tg js ug) (ht : Blk X scope fun Y => PDTs Y b.q ifs ut) (he : Blk X scope fun Y => PD Y b.q elt ue) (hc : X.calm = true := by rfl) (hs : ∀ x, foldedSetIterable iter X.env x = pure x := by intro _; rfl) :
    PD X b (.ListComp elt [⟨tg, iter, ifs, 0⟩] scope pos) (uLc (uItW ud img) ug ut ue (own.map (·.2))) := by
  obtain ⟨t, wi, J, h1, h2, h3, h4⟩ := hw
  exact d_lcW hN ok hj h1 h2 h3 h4 hg ht he hc hs
/-! ### dict(pairs), dict(d), least and greatest of two -/
def pairK : D → Option (Key × D)
  | .tup [k, d] => (keyD k).map fun k => (k, d)
  | _ => none
def mergeD (acc : List (Key × D)) : List (Key × D) → List (Key × D)
  | [] => acc
  | (k, d) :: r => mergeD (putD acc k d) r
def fDict (d : D) (P : R → Prop) : Prop := match d with
  | .dk kvs => P (.ow (.dk kvs))
  | .lst xs => ∃ kvs, xs.map pairK = kvs.map some ∧ P (.ow (.dk (mergeD [] kvs)))
  | _ => False
theorem mergeD_K {G : Hp} : ∀ {more : List (Key × D)} {ms : List (Key × V)} {acc : List (Key × D)} {as : List (Key × V)}, RepK K G more ms → RepK K G acc as → RepK K G (mergeD acc more) (mergeK as ms)
  | [], _, _, _, h, ha => by cases h; exact ha
  | (k, d) :: r, _, acc, as, ⟨v, q, h1, h2, h3⟩, ha => by
    subst h1
    show RepK K G (mergeD (putD acc k d) r) (mergeK (putK as k v) q)
    exact mergeD_K h3 (ha.put k h2)
theorem pairs_rep {G H : Hp} (ex : Ex G H) : ∀ {xs : List D} {vs : List V} {kvs : List (Key × D)}, RepL K G xs vs → xs.map pairK = kvs.map some → ∃ (ps : List Addr) (ws : List (Key × V)), vs = ps.map V.ref ∧ Paired (fun p kv => SqT K H p [kV kv.1, kv.2]) ps ws ∧ RepK K G kvs ws
  | [], _, kvs, h, e => by
    cases h
    have : kvs = [] := List.map_eq_nil_iff.mp e.symm
    subst this
    exact ⟨[], [], rfl, .nil, rfl⟩
  | x :: xs, _, kvs, ⟨v, r, h1, h2, h3⟩, e => by
    subst h1
    cases kvs with
    | nil => cases e
    | cons kv kvs =>
      obtain ⟨k, d⟩ := kv
      rw [List.map_cons, List.map_cons] at e
      obtain ⟨e1, e2⟩ := List.cons.inj e
      obtain ⟨ps, ws, q1, q2, q3⟩ := pairs_rep ex h3 e2
      unfold pairK at e1
      split at e1
      · rename_i kd d'
        cases ek : keyD kd with
        | none => rw [ek] at e1; cases e1
        | some k' =>
          rw [ek] at e1
          cases e1
          obtain ⟨a, vs, rfl, ha, w1, r1, rfl, g1, w2, r2, rfl, g2, g3⟩ := h2
          cases g3
          have e3 : w1 = kV k := keyD_top ek (Rep.top ex g1)
          subst e3
          exact ⟨a :: ps, (k, w2) :: ws, by rw [q1]; rfl, .cons (ex_tup ex ha) q2, w2, ws, rfl, g2, q3⟩
      · cases e1
theorem lc_dict : LC K (fun xs H Q => (fun xs H Q => ∃ (a : Addr) (ps : List Addr) (kvs : List (Key × V)), xs = [.ref a] ∧ SqL K H a (ps.map V.ref) ∧ Paired (fun p kv => SqT K H p [kV kv.1, kv.2]) ps kvs ∧ ∀ p, H p = none → Q (.ref p) (upd H p (.dK (mergeK [] kvs)))) xs H Q ∨
    (fun xs H Q => ∃ (a : Addr) (kvs : List (Key × V)), xs = [.ref a] ∧ Rd H a (.dK kvs) ∧ ∀ p, H p = none → Q (.ref p) (upd H p (.dK kvs))) xs H Q) fDict := by
  intro b L G0 H0 G H σ e d x P Q g h hf k
  unfold fDict at hf
  split at hf
  · obtain ⟨a, vs, rfl, ha, hr⟩ := h
    exact .inr ⟨a, vs, rfl, ha, g.newK hr hf k⟩
  · obtain ⟨kvs, e1, p⟩ := hf
    obtain ⟨a, vs, rfl, ha, hr⟩ := h
    obtain ⟨ps, ws, rfl, q2, q3⟩ := pairs_rep g.ex hr e1
    exact .inl ⟨a, ps, ws, rfl, SqL.of ha, q2, g.newK (mergeD_K q3 (show RepK K G [] [] from rfl)) p k⟩
  · exact hf.elim
theorem d_dict1 {a : Expr} {u : DE} {p pos : Pos} (hm : X.mg "dict" = none) (h1 : PD X b a u) (hc : X.calm = true := by rfl) (hg : Gl X "dict" := by rfl) (hs : starEach (a :: []) X.env = (false, eval a X.env) :: starEach [] X.env := by rfl) (hpl : (backTo pos (starEach [] X.env)).any (·.1) = false := by rfl) :
    PD X b (.Call (.Name "dict" p) [a] [] pos) (uB fDict u) := d_t1 (callR_or (call_dictP hc) call_dictD) lc_dict hm (by decide +kernel) h1 hg (hs := hs) (hpl := hpl)
/-- min(a, b), max(a, b) -/
def u2B (f : List D → (R → Prop) → Prop) (ua : DA) : DE := fun e P => ua e fun ds => f ds P
def fMin2 (ds : List D) (P : R → Prop) : Prop := ∃ i j : Int, ds = [.int i, .int j] ∧ P (.sh (.int (if j < i then j else i)))
def fMax2 (ds : List D) (P : R → Prop) : Prop := ∃ i j : Int, ds = [.int i, .int j] ∧ P (.sh (.int (if j > i then j else i)))
theorem d_min2 {a c : Expr} {ua : DA} {p pos : Pos} (hm : X.mg "min" = none) (h : PDA X b [a, c] ua) (hc : X.calm = true := by rfl) (hg : Gl X "min" := by rfl) (hs : starEach [a, c] X.env = (false, eval a X.env) :: starEach [c] X.env := by rfl) (hpl : (backTo pos (starEach [c] X.env)).any (·.1) = false := by rfl) :
    PD X b (.Call (.Name "min" p) [a, c] [] pos) (u2B fMin2 ua) := by
  obtain ⟨t, pa, l⟩ := h
  refine ⟨_, pe_callB (call_min2 hc) hg hm (by decide +kernel) pa (by decide) (by decide) hs hpl, ?_⟩
  intro L G0 H0 G H σ e P Q g hu k
  refine l L G0 H0 G H σ e _ _ g hu fun vs ds G1 H1 s1 hr ⟨i, j, e, p⟩ => ?_
  subst e
  obtain ⟨_, _, rfl, rfl, _, _, rfl, rfl, rfl⟩ := hr
  exact ⟨i, j, rfl, k _ (.sh (.int _)) G1 H1 s1 rfl p⟩
theorem d_max2 {a c : Expr} {ua : DA} {p pos : Pos} (hm : X.mg "max" = none) (h : PDA X b [a, c] ua) (hc : X.calm = true := by rfl) (hg : Gl X "max" := by rfl) (hs : starEach [a, c] X.env = (false, eval a X.env) :: starEach [c] X.env := by rfl) (hpl : (backTo pos (starEach [c] X.env)).any (·.1) = false := by rfl) :
    PD X b (.Call (.Name "max" p) [a, c] [] pos) (u2B fMax2 ua) := by
  obtain ⟨t, pa, l⟩ := h
  refine ⟨_, pe_callB (call_max2 hc) hg hm (by decide +kernel) pa (by decide) (by decide) hs hpl, ?_⟩
  intro L G0 H0 G H σ e P Q g hu k
  refine l L G0 H0 G H σ e _ _ g hu fun vs ds G1 H1 s1 hr ⟨i, j, e, p⟩ => ?_
  subst e
  obtain ⟨_, _, rfl, rfl, _, _, rfl, rfl, rfl⟩ := hr
  exact ⟨i, j, rfl, k _ (.sh (.int _)) G1 H1 s1 rfl p⟩
/-! ### len, list of dicts too -/
theorem cr_lenD : CallR X (.builtin "len") (fun xs H Q => ∃ a kvs, xs = [V.ref a] ∧ Rd H a (.dK kvs) ∧ Q (.int kvs.length) H) := by
  rintro pins s σ H xs us Q I r ⟨a, kvs, rfl, ha, q⟩
  obtain ⟨u, rfl, ru⟩ := vals1 r
  cases ru
  refine L2.d_len I ?_ fun t s' I' => ⟨.int kvs.length, H, I', ⟨t, rfl⟩, q⟩
  first | exact ha | exact .inl ha
def fLenU (d : D) (P : R → Prop) : Prop := match d with
  | .dk kvs => P (.sh (.int kvs.length))
  | d => fLen d P
theorem lc_lenU : LC K (fun xs H Q => ((fun xs H Q => ∃ p ys, xs = [.ref p] ∧ (SqL K H p ys ∨ SqT K H p ys) ∧ Q (.int ys.length) H) xs H Q ∨ (fun xs H Q => ∃ z : Str, xs = [.str z] ∧ z.length ≤ sizeLine ∧ Q (.int z.length) H) xs H Q) ∨ (fun xs H Q => ∃ a kvs, xs = [V.ref a] ∧ Rd H a (.dK kvs) ∧ Q (.int kvs.length) H) xs H Q) fLenU := by
  intro b L G0 H0 G H σ e d x P Q g h hf k
  unfold fLenU at hf
  split at hf
  · obtain ⟨a, vs, rfl, ha, hr⟩ := h
    refine .inr ⟨a, vs, rfl, ha, ?_⟩
    rw [hr.length]
    exact k _ (.sh (.int _)) G H (Stp.refl g.ex) rfl hf
  · exact .inl (lc_len b L G0 H0 G H σ e _ x P Q g h hf k)
theorem d_lenU {a : Expr} {u : DE} {p pos : Pos} (hm : X.mg "len" = none) (h1 : PD X b a u) (hg : Gl X "len" := by rfl) (hs : starEach (a :: []) X.env = (false, eval a X.env) :: starEach [] X.env := by rfl) (hpl : (backTo pos (starEach [] X.env)).any (·.1) = false := by rfl) :
    PD X b (.Call (.Name "len" p) [a] [] pos) (uB fLenU u) := d_b1 (callR_or (callR_or call_len_seq call_len_str) cr_lenD) lc_lenU hm (by decide +kernel) h1 hg (hs := hs) (hpl := hpl)
def fListU (d : D) (P : R → Prop) : Prop := match d with
  | .dk kvs => P (.ow (.lst (kvs.map fun kv => kD kv.1)))
  | d => fList2 d P
theorem keys_rep {G : Hp} {kvs : List (Key × D)} {vs : List (Key × V)} (h : RepK K G kvs vs) : RepL K G (kvs.map fun kv => kD kv.1) (vs.map fun kv => kV kv.1) := by
  induction kvs generalizing vs with
  | nil => cases h; rfl
  | cons p r ih =>
    obtain ⟨k, d⟩ := p
    obtain ⟨v, q, rfl, _, h3⟩ := h
    exact ⟨_, _, rfl, kD_rep k, ih h3⟩
theorem e_lenU1 {kvs : List (Key × D)} {P : R → Prop} : fLenU (.dk kvs) P = P (.sh (.int kvs.length)) := rfl
theorem e_lenU2 {xs : List D} {P : R → Prop} : fLenU (.lst xs) P = P (.sh (.int xs.length)) := rfl
theorem e_lenU3 {xs : List D} {P : R → Prop} : fLenU (.tup xs) P = P (.sh (.int xs.length)) := rfl
theorem e_lenU4 {s : Str} {P : R → Prop} : fLenU (.str s) P = (s.length ≤ 1000000 ∧ P (.sh (.int s.length))) := rfl
theorem e_listU1 {kvs : List (Key × D)} {P : R → Prop} : fListU (.dk kvs) P = P (.ow (.lst (kvs.map fun kv => kD kv.1))) := rfl
theorem e_listU2 {xs : List D} {P : R → Prop} : fListU (.lst xs) P = P (.ow (.lst xs)) := rfl
theorem e_listU3 {xs : List D} {P : R → Prop} : fListU (.tup xs) P = P (.ow (.lst xs)) := rfl
theorem e_listU4 {s : Str} {P : R → Prop} : fListU (.str s) P = (s.length ≤ 1000000 ∧ P (.ow (.lst (signs s)))) := rfl
theorem lc_listU : LC K (fun xs H Q => ((fun xs H Q => ∃ p ys, xs = [.ref p] ∧ (SqL K H p ys ∨ SqT K H p ys) ∧ ∀ l, H l = none → Q (.ref l) (upd H l (.lst ys))) xs H Q ∨
    (fun xs H Q => ∃ z : Str, xs = [.str z] ∧ z.length ≤ sizeLine ∧ ∀ p, H p = none → Q (.ref p) (upd H p (.lst (z.cps.toList.map fun c => V.str (sign c))))) xs H Q) ∨
    (fun xs H Q => ∃ (a : Addr) (kvs : List (Key × V)), xs = [.ref a] ∧ Rd H a (.dK kvs) ∧ ∀ p, H p = none → Q (.ref p) (upd H p (.lst (kvs.map fun kv => kV kv.1)))) xs H Q) fListU := by
  intro b L G0 H0 G H σ e d x P Q g h hf k
  unfold fListU at hf
  split at hf
  · obtain ⟨a, vs, rfl, ha, hr⟩ := h
    exact .inr ⟨a, vs, rfl, ha, g.newL (keys_rep hr) hf k⟩
  · exact .inl (lc_list2 b L G0 H0 G H σ e _ x P Q g h hf k)
theorem d_listU {a : Expr} {u : DE} {p pos : Pos} (hm : X.mg "list" = none) (h1 : PD X b a u) (hc : X.calm = true := by rfl) (hg : Gl X "list" := by rfl) (hs : starEach (a :: []) X.env = (false, eval a X.env) :: starEach [] X.env := by rfl) (hpl : (backTo pos (starEach [] X.env)).any (·.1) = false := by rfl) :
    PD X b (.Call (.Name "list" p) [a] [] pos) (uB fListU u) := d_t1 (callR_or (callR_or call_list_of (cr_listStr hc)) (call_listD hc)) lc_listU hm (by decide +kernel) h1 hg (hs := hs) (hpl := hpl)
/-! ### a < b < c -/
def uChn (f f' : D → D → (R → Prop) → Prop) (ua ub uc : DE) : DE := fun e P => ua e fun r1 => ub e fun r2 => f r1.look r2.look (asB fun c => if c = true then uc e fun r3 => f' r2.look r3.look P else P (.sh (.bl false)))
theorem le_chain {r r' : R2} {f f' : D → D → (R → Prop) → Prop} {t1 t2 t3 : TE} {u1 u2 u3 : DE} (h : LO K r f) (h' : LO K r' f') (l1 : LE K b t1 u1) (l2 : LE K b t2 u2) (l3 : LE K b t3 u3) : LE K b (tChain r r' t1 t2 t3) (uChn f f' u1 u2 u3) := by
  intro L G0 H0 G H σ e P Q g hu k
  refine l1 L G0 H0 G H σ e _ _ g hu fun v1 r1 G1 H1 s1 hr1 q1 => ?_
  have g1 := g.step s1
  refine l2 L G0 H0 G1 H1 σ e _ _ g1 q1 fun v2 r2 G2 H2 s2 hr2 q2 => ?_
  have g2 := g1.step s2
  refine h b L G0 H0 G2 H2 σ e _ _ v1 v2 _ _ g2 ((hr1.step s2).top g2) (hr2.top g2) q2 fun v r G3 H3 s3 hr hp => ?_
  obtain ⟨c, rfl, hc⟩ := asB_of hr hp
  have g3 := g2.step s3
  refine ⟨c, rfl, ?_⟩
  have s123 := (s1.trans s2).trans s3
  cases c with
  | false =>
    rw [if_neg (by simp)] at hc ⊢
    exact k _ (.sh (.bl false)) G3 H3 s123 rfl hc
  | true =>
    rw [if_pos rfl] at hc ⊢
    refine l3 L G0 H0 G3 H3 σ e _ _ g3 hc fun v3 r3 G4 H4 s4 hr3 q4 => ?_
    have g4 := g3.step s4
    refine h' b L G0 H0 G4 H4 σ e _ _ v2 v3 P Q g4 (((hr2.step s3).step s4).top g4) (hr3.top g4) q4 fun v r G' H' s hr hp => ?_
    exact k v r G' H' ((s123.trans s4).trans s) (hr.back fun a hb z => s1.back a hb (s2.back a hb (s3.back a hb (s4.back a hb z)))) hp
theorem d_chain {op op' : CmpOp} {r r' : R2} {f f' : D → D → (R → Prop) → Prop} {a c d : Expr} {u1 u2 u3 : DE} {pos : Pos} (ho : OpR X (compareOp op) r) (ho' : OpR X (compareOp op') r') (h : LO X.K r f) (h' : LO X.K r' f') (h1 : PD X b a u1) (h2 : PD X b c u2) (h3 : PD X b d u3)
    (hm : lastMarks [op, op'] [c, d] = false := by with_unfolding_all rfl) : PD X b (.Compare a [op, op'] [c, d] pos) (uChn f f' u1 u2 u3) := by
  obtain ⟨t1, p1, l1⟩ := h1
  obtain ⟨t2, p2, l2⟩ := h2
  obtain ⟨t3, p3, l3⟩ := h3
  exact ⟨_, pe_chain ho ho' p1 p2 p3 hm, le_chain h h' l1 l2 l3⟩
theorem dt_chain {op op' : CmpOp} {r r' : R2} {f f' : D → D → (R → Prop) → Prop} {a c d : Expr} {u1 u2 u3 : DE} {pos : Pos} (ho : OpR X (compareOp op) r) (ho' : OpR X (compareOp op') r') (h : LO X.K r f) (h' : LO X.K r' f') (h1 : PD X b a u1) (h2 : PD X b c u2) (h3 : PD X b d u3)
    (hm : lastMarks [op, op'] [c, d] = false := by with_unfolding_all rfl) : PDT X b (.Compare a [op, op'] [c, d] pos) (uTest (uChn f f' u1 u2 u3)) := by
  obtain ⟨t1, p1, l1⟩ := h1
  obtain ⟨t2, p2, l2⟩ := h2
  obtain ⟨t3, p3, l3⟩ := h3
  exact ⟨_, pt_chain ho ho' p1 p2 p3 hm, lt_test (le_chain h h' l1 l2 l3)⟩
/-- ints: 0 <= x < n -/
theorem d_leLt {a c d : Expr} {u1 u2 u3 : DE} {pos : Pos} (h1 : PD X b a u1) (h2 : PD X b c u2) (h3 : PD X b d u3) (hm : lastMarks [.LtE, .Lt] [c, d] = false := by with_unfolding_all rfl) : PD X b (.Compare a [.LtE, .Lt] [c, d] pos) (uChn fLeI fLt u1 u2 u3) := d_chain op_le (opR_or op_lt op_lt_str) (lo_I0 fun _ _ _ => rfl) lo_ord h1 h2 h3 hm
theorem dt_leLt {a c d : Expr} {u1 u2 u3 : DE} {pos : Pos} (h1 : PD X b a u1) (h2 : PD X b c u2) (h3 : PD X b d u3) (hm : lastMarks [.LtE, .Lt] [c, d] = false := by with_unfolding_all rfl) : PDT X b (.Compare a [.LtE, .Lt] [c, d] pos) (uTest (uChn fLeI fLt u1 u2 u3)) := dt_chain op_le (opR_or op_lt op_lt_str) (lo_I0 fun _ _ _ => rfl) lo_ord h1 h2 h3 hm
/-- a constant of the module -/
theorem d_globE {x : Str} {v : V} {d : D} {pos : Pos} (hm : ∃ u, X.mg x = some u ∧ RelV v u) (hr : ∀ G, Rep X.K G d v) (hg : Gl X x := by rfl) (hd : (x == ("__debug__" : Str)) = false := by decide) : PD X b (.Name x pos) (uC d) := by
  obtain ⟨u, h1, h2⟩ := hm
  exact d_glob h1 h2 hr hg hd
/-- C.f, a constant of a class -/
theorem d_cval {C : Addr} {mc : Value} {f x : Str} {v : V} {d : D} {p pos : Pos} (hm : X.mg x = some (.ref C)) (r : ClX.CRead X.K C mc) (c : ∃ w, ClX.CVal X.K C mc f v w) (hr : ∀ G, Rep X.K G d v) (hg : Gl X x := by rfl) (hd : (x == ("__debug__" : Str)) = false := by decide)
    (hb : attributeBase (.Name x p) f X.env (eval (.Name x p) X.env) = eval (.Name x p) X.env := by rfl) : PD X b (.Attribute (.Name x p) f pos) (uC d) := by
  obtain ⟨w, c⟩ := c
  refine ⟨_, ClX.pe_cval (pe_glob (v := .ref C) hg hm rfl hd) hb, ?_⟩
  intro L G0 H0 G H σ e P Q g hu k
  exact ⟨C, mc, v, w, rfl, r, c, k v (.sh d) G H (Stp.refl g.ex) (hr G) hu⟩
end
/-! ### methods where they stand -/
section
variable {P : Program} {w : World} {K : PySem.W.Frag} {mg : Str → Option Value} {base : Heap}
structure HereM (K : PySem.W.Frag) (C : Addr) (m qual : Str) (st : Stmt) (ps : List Str) : Prop where
  ex : ∃ f fd, Fun K m qual st f fd ∧ Meth K C m f ∧ Binds K fd ps []
structure HereI (K : PySem.W.Frag) (mg : Str → Option Value) (x : Str) (C : Addr) (st : Stmt) (ps : List Str) : Prop where
  ex : ∃ f fd, Fun K "__init__" (x ++ ".__init__") st f fd ∧ Mk K C f ∧ Binds K fd ps []
theorem hereM_mk {C : Addr} {m qual : Str} {st : Stmt} {ps : List Str} {f : Addr} {oc : Value} {od an : Option Addr} {osl : Array (Option Value)} {kV doc pm cdv ct : Value} (a : PySem.W.findIn K (.ref C) m = some (some (.ref f))) (i : PySem.W.isFn K (.ref f) = true)
    (l : K.lookup f = some ⟨oc, od, .func (PySem.W.fnOf m qual (defArgs st) (defBody st) (defScope st) .none kV doc pm an cdv ct), osl⟩) (c : PySem.W.codeIn K cdv qual = true) (k : PySem.W.keepIn K (.ref f) = true)
    (hb : ∀ (kV doc pm : Value) (an : Option Addr) (cdv ct : Value) (us : List Value), us.length = ps.length → bindArgs (PySem.W.fnOf m qual (defArgs st) (defBody st) (defScope st) .none kV doc pm an cdv ct) ⟨us, []⟩ = pure (ps.zip us)) : HereM K C m qual st ps :=
  ⟨f, _, fun_mk l c k, ⟨a, i, k⟩, (fun_mk (st := st) l c k).binds hb⟩
theorem hereI_mk {C : Addr} {x : Str} {st : Stmt} {ps : List Str} {f : Addr} {oc : Value} {od an : Option Addr} {osl : Array (Option Value)} {kV doc pm cdv ct : Value} (mk : PySem.W.makesIn K C = true) (a : PySem.W.findIn K (.ref C) "__init__" = some (some (.ref f))) (i : PySem.W.isFn K (.ref f) = true) (kc : PySem.W.keepIn K (.ref C) = true)
    (l : K.lookup f = some ⟨oc, od, .func (PySem.W.fnOf "__init__" (x ++ ".__init__") (defArgs st) (defBody st) (defScope st) .none kV doc pm an cdv ct), osl⟩) (c : PySem.W.codeIn K cdv (x ++ ".__init__") = true) (k : PySem.W.keepIn K (.ref f) = true)
    (hb : ∀ (kV doc pm : Value) (an : Option Addr) (cdv ct : Value) (us : List Value), us.length = ps.length → bindArgs (PySem.W.fnOf "__init__" (x ++ ".__init__") (defArgs st) (defBody st) (defScope st) .none kV doc pm an cdv ct) ⟨us, []⟩ = pure (ps.zip us)) : HereI K mg x C st ps :=
  ⟨f, _, fun_mk l c k, ⟨mk, a, i, kc⟩, (fun_mk (st := st) l c k).binds hb⟩
theorem fn_dataM {x qual : Str} {st : Stmt} {f : Addr} {fd : FuncData} {N ps : List Str} {k : Nat} {fs : FS} {u : DS} (F : Fun K x qual st f fd) (hbi : Binds K fd ps []) (S : FnScope N ps (defScope st)) (len : ∀ ds P, fs ds P → ds.length = ps.length)
    (hb : ∀ (cdv : Value) (A : Around) (outer : List Env) (s : Shared) (H : Hp) (E : XK), Room k (A.deeper (envOfC qual (defScope st) s.heap.objs.size f cdv)) → PDSs (cxOf CX0 P w K mg base N qual (defScope st) f cdv A outer s H E).nox (bN none) (defBody st) u)
    (hu : ∀ ds P, fs ds P → u ⟨fun _ => P (.sh .non), fun r _ => P r, fun _ => False, fun _ => False⟩ (env0 N ds)) : FnOk P w K mg base CX0 (k + 1) f fd ps (spN K fs) := by
  refine F.ok S (fun vs H Q E h => ?_) (fun cdv A outer s H vs Q E hr h => ?_)
  · obtain ⟨G, ds, P, _, hr, hf, _⟩ := h
    rw [hr.length]; exact len ds P hf
  · obtain ⟨G, ds, P', ex, hds, hf, kk⟩ := h
    obtain ⟨t, p, l⟩ := hb cdv A outer s H E hr
    refine ⟨t, p, l [] G H G H _ _ ⟨fun _ => P' (.sh .non), fun r _ => P' r, fun _ => False, fun _ => False⟩ _ (good0 ex hds) ⟨fun G' H' σ e g h => ?_, fun G' H' σ e v r g hr h => ?_, fun G' H' σ e g h => h.elim, fun G' H' σ e g h => h.elim⟩ (hu ds P' hf)⟩
    · exact kk .non (.sh .non) G' H' g.stp rfl h
    · exact kk v r G' H' g.stp hr h
end
end DL
/-! DL30: plain mathematics of linear equations modulo 2 over bit rows. -/
namespace Tm
open PySem L2 DL PyProof.Rows
theorem two_bit (n k : Nat) (h : n.testBit k = false) : n + 2 ^ k = n ^^^ 2 ^ k := by
  have h0 : n / 2 ^ k % 2 = 0 := by
    rw [Nat.testBit_eq_decide_div_mod_eq] at h
    have := of_decide_eq_false h
    omega
  have hp : 0 < 2 ^ k := Nat.two_pow_pos k
  apply Nat.eq_of_testBit_eq
  intro j
  rw [Nat.testBit_xor, Nat.testBit_two_pow]
  by_cases hj : j < k
  · have e : (n + 2 ^ k).testBit j = n.testBit j := by
      rw [Nat.add_comm, Nat.testBit_two_pow_add_gt hj]
    have q : ¬ k = j := by omega
    rw [e, decide_eq_false q]; simp
  · have hd : (n + 2 ^ k) / 2 ^ k = n / 2 ^ k + 1 := by rw [Nat.add_div_right _ hp]
    have e1 : ∀ m : Nat, m.testBit j = (m / 2 ^ k).testBit (j - k) := fun m => by
      rw [Nat.testBit_div_two_pow]; congr 1; omega
    rw [e1, e1 n, hd]
    by_cases hk : k = j
    · subst hk
      rw [Nat.sub_self, decide_eq_true rfl, Nat.testBit_zero, Nat.testBit_zero]
      have : (n / 2 ^ k + 1) % 2 = 1 := by omega
      rw [h0, this]; rfl
    · rw [decide_eq_false hk]
      have hjk : j - k = (j - k - 1) + 1 := by omega
      rw [hjk, Nat.testBit_succ, Nat.testBit_succ]
      have : (n / 2 ^ k + 1) / 2 = n / 2 ^ k / 2 := by omega
      rw [this]; simp
/-- an equation's row -/
def rowN (us : List Nat) (v : Nat) : Nat := v + (us.map fun u => 2 ^ (u + 1)).sum
theorem rowN_bit (v : Nat) (hv : v ≤ 1) : ∀ us : List Nat, us.Nodup → (rowN us v).testBit 0 = decide (v = 1) ∧ ∀ k, (rowN us v).testBit (k + 1) = decide (k ∈ us)
  | [], _ => by
    refine ⟨?_, fun k => ?_⟩
    · show (v + 0).testBit 0 = _
      rw [Nat.testBit_zero]
      have : v = 0 ∨ v = 1 := by omega
      rcases this with rfl | rfl <;> rfl
    · show (v + 0).testBit (k + 1) = _
      rw [Nat.testBit_succ]
      have : (v + 0) / 2 = 0 := by omega
      rw [this]; simp
  | u :: us, h => by
    rw [List.nodup_cons] at h
    obtain ⟨h1, h2⟩ := rowN_bit v hv us h.2
    have e : rowN (u :: us) v = rowN us v ^^^ 2 ^ (u + 1) := by
      rw [← two_bit _ _ (by rw [h2]; exact decide_eq_false h.1)]
      unfold rowN
      rw [List.map_cons, List.sum_cons]
      omega
    refine ⟨?_, fun k => ?_⟩
    · have q : ¬ u + 1 = 0 := by omega
      rw [e, Nat.testBit_xor, h1, Nat.testBit_two_pow, decide_eq_false q]; simp
    · rw [e, Nat.testBit_xor, h2, Nat.testBit_two_pow]
      by_cases hk : k = u
      · subst hk; rw [decide_eq_false h.1]; simp
      · have : ¬ u + 1 = k + 1 := by omega
        rw [decide_eq_false this]; simp [hk]
/-- the value of a row at an assignment -/
def fR (x : List Nat) (r : Nat) : Bool := x.foldl (fun c u => c ^^ r.testBit (u + 1)) (r.testBit 0)
theorem fold_xor (g h : Nat → Bool) : ∀ (x : List Nat) (a b : Bool), x.foldl (fun c u => c ^^ (g u ^^ h u)) (a ^^ b) = (x.foldl (fun c u => c ^^ g u) a ^^ x.foldl (fun c u => c ^^ h u) b)
  | [], a, b => rfl
  | u :: x, a, b => by
    rw [List.foldl_cons, List.foldl_cons, List.foldl_cons, ← fold_xor g h x]
    congr 1
    cases a <;> cases b <;> cases g u <;> cases h u <;> rfl
theorem fR_xor (x : List Nat) (r s : Nat) : fR x (r ^^^ s) = (fR x r ^^ fR x s) := by
  unfold fR
  rw [← fold_xor, Nat.testBit_xor]
  congr 1
  funext c u
  rw [Nat.testBit_xor]
theorem fR_zero (x : List Nat) : fR x 0 = false := by
  have := fR_xor x 0 0
  rw [Nat.xor_self] at this
  rw [this]; cases fR x 0 <;> rfl
/-- the number of bits -/
def bl (n : Nat) : Nat := if n = 0 then 0 else n.log2 + 1
theorem bl_lt {n k : Nat} : bl n ≤ k ↔ n < 2 ^ k := by
  unfold bl
  split
  · rename_i h; subst h; exact ⟨fun _ => Nat.two_pow_pos k, fun _ => Nat.zero_le _⟩
  · rename_i h
    rw [Nat.succ_le_iff, Nat.log2_lt h]
theorem bl_top {n k : Nat} (h : bl n = k + 1) : n.testBit k = true := by
  unfold bl at h
  split at h
  · cases h
  · rename_i h0
    have : n.log2 = k := by omega
    rw [← this]
    exact Nat.testBit_log2 h0
theorem bl_above {n k : Nat} (h : bl n ≤ k) : n.testBit k = false := Nat.testBit_lt_two_pow (bl_lt.mp h)
theorem bl_xor {m n k : Nat} (hm : bl m = k + 1) (hn : bl n = k + 1) : bl (m ^^^ n) ≤ k := by
  rw [bl_lt]
  refine Nat.lt_pow_two_of_testBit _ fun j hj => ?_
  rw [Nat.testBit_xor]
  by_cases h : j = k
  · subst h; rw [bl_top hm, bl_top hn]; rfl
  · rw [bl_above (show bl m ≤ j by omega), bl_above (show bl n ≤ j by omega)]; rfl
/-- the rows that a mark names -/
def comb (e : Nat → Nat) (N m : Nat) : Nat := (List.range N).foldl (fun a j => if m.testBit j then a ^^^ e j else a) 0
theorem comb_succ (e : Nat → Nat) (N m : Nat) : comb e (N + 1) m = if m.testBit N then comb e N m ^^^ e N else comb e N m := by
  unfold comb
  rw [List.range_succ, List.foldl_append]; rfl
theorem comb_xor (e : Nat → Nat) : ∀ (N m n : Nat), comb e N (m ^^^ n) = comb e N m ^^^ comb e N n
  | 0, m, n => by simp [comb]
  | N + 1, m, n => by
    rw [comb_succ, comb_succ, comb_succ, comb_xor e N, Nat.testBit_xor]
    apply Nat.eq_of_testBit_eq
    intro j
    cases m.testBit N <;> cases n.testBit N <;> simp [Nat.testBit_xor]
    · cases (comb e N m).testBit j <;> cases (comb e N n).testBit j <;> cases (e N).testBit j <;> rfl
    · cases (comb e N m).testBit j <;> cases (comb e N n).testBit j <;> cases (e N).testBit j <;> rfl
theorem comb_two (e : Nat → Nat) (i : Nat) : ∀ N, comb e N (2 ^ i) = if i < N then e i else 0
  | 0 => by simp [comb]
  | N + 1 => by
    rw [comb_succ, comb_two e i N, Nat.testBit_two_pow]
    by_cases h : i = N
    · subst h
      have q : ¬ i < i := Nat.lt_irrefl i
      rw [if_neg q, decide_eq_true rfl, if_pos rfl, if_pos (Nat.lt_succ_self i), Nat.zero_xor]
    · rw [decide_eq_false h]
      by_cases h2 : i < N
      · rw [if_pos h2, if_pos (Nat.lt_succ_of_lt h2)]; rfl
      · have q : ¬ i < N + 1 := by omega
        rw [if_neg h2, if_neg q]; rfl
end Tm
namespace DL
open PySem L2 PyProof.Rows
/-! ### a call that is handed an owned thing: the answer holds no part of it -/
mutual
def lowD : D → Bool
  | .non | .bl _ | .int _ | .str _ => true
  | .lst xs => xs.all fun d => match d with | .int _ => true | _ => false
  | .tup xs => lowL xs
  | _ => false
def lowL : List D → Bool
  | [] => true
  | x :: xs => lowD x && lowL xs
end
def hiO : OD → Bool
  | .lst (.str _ :: _) | .lst (.lst _ :: _) | .lst (.tup _ :: _) | .lst (.dk _ :: _) | .lst (.obj _ _ :: _) => true
  | .lst _ => false
  | _ => true
section
variable {X : Cx} {b : Bg} {K : PySem.W.Frag}
def del (G : Hp) (a : Addr) : Hp := fun c => if c = a then none else G c
theorem del_ne {G : Hp} {a c : Addr} (h : c ≠ a) : del G a c = G c := if_neg h
theorem del_same {G : Hp} {a : Addr} : del G a a = none := if_pos rfl
theorem hi_int {G : Hp} {o : OD} {xs : List D} {vs : List V} (hh : hiO o = true) (hr : RepO K G o (.lst vs)) (h : (xs.all fun d => match d with | .int _ => true | _ => false) = true) (hx : RepL K G xs vs) : False := by
  cases o with
  | lst ys =>
    obtain ⟨ws, e, hy⟩ := hr
    cases e
    cases ys with
    | nil => cases hh
    | cons y ys =>
      obtain ⟨v, r, rfl, hv, _⟩ := hy
      cases xs with
      | nil => cases hx
      | cons x xs =>
        obtain ⟨v', r', e, hv', _⟩ := hx
        cases e
        cases x with
        | int i =>
          cases hv'
          cases y with
          | str s => cases hv
          | lst q => obtain ⟨a, _, e, _⟩ := hv; cases e
          | tup q => obtain ⟨a, _, e, _⟩ := hv; cases e
          | dk q => obtain ⟨a, _, e, _⟩ := hv; cases e
          | obj C q => obtain ⟨a, _, _, e, _⟩ := hv; cases e
          | _ => cases hh
        | _ => cases h
  | dk kvs => obtain ⟨vs, e, _⟩ := hr; cases e
  | obj C fs => obtain ⟨dx, vs, e, _⟩ := hr; cases e
theorem not_tup {G : Hp} {o : OD} {vs : List V} (hr : RepO K G o (.tup vs)) : False := by
  cases o with
  | lst ys => obtain ⟨_, e, _⟩ := hr; cases e
  | dk kvs => obtain ⟨vs, e, _⟩ := hr; cases e
  | obj C fs => obtain ⟨dx, vs, e, _⟩ := hr; cases e
mutual
theorem rep_del {G : Hp} {a : Addr} {ho : HO} {o : OD} (ha : G a = some ho) (hh : hiO o = true) (hr : RepO K G o ho) : ∀ {d : D} {v : V}, lowD d = true → Rep K G d v → Rep K (del G a) d v
  | .non, _, _, h => h
  | .bl _, _, _, h => h
  | .int _, _, _, h => h
  | .str _, _, _, h => h
  | .lst xs, _, l, ⟨c, vs, h1, h2, h3⟩ => by
    have hc : c ≠ a := fun z => by
      subst z
      rw [ha] at h2
      cases h2
      exact hi_int hh hr l h3
    refine ⟨c, vs, h1, by rw [del_ne hc]; exact h2, ?_⟩
    exact repL_ints_del l h3
  | .tup xs, _, l, ⟨c, vs, h1, h2, h3⟩ => by
    refine ⟨c, vs, h1, ?_, repL_del ha hh hr l h3⟩
    rcases h2 with h2 | h2
    · have hc : c ≠ a := fun z => by
        subst z
        rw [ha] at h2
        cases h2
        exact not_tup hr
      exact .inl (by rw [del_ne hc]; exact h2)
    · exact .inr h2
  | .dk _, _, l, _ => by cases l
  | .obj _ _, _, l, _ => by cases l
  | .fn _, _, l, _ => by cases l
  | .exc _ _, _, l, _ => by cases l
  | .tabl _ _, _, l, _ => by cases l
theorem repL_del {G : Hp} {a : Addr} {ho : HO} {o : OD} (ha : G a = some ho) (hh : hiO o = true) (hr : RepO K G o ho) : ∀ {xs : List D} {vs : List V}, lowL xs = true → RepL K G xs vs → RepL K (del G a) xs vs
  | [], _, _, h => h
  | x :: xs, _, l, ⟨v, r, h1, h2, h3⟩ => by
    have l' : lowD x = true ∧ lowL xs = true := by simpa [lowL] using l
    exact ⟨v, r, h1, rep_del ha hh hr l'.1 h2, repL_del ha hh hr l'.2 h3⟩
theorem repL_ints_del {G G' : Hp} : ∀ {xs : List D} {vs : List V}, (xs.all fun d => match d with | .int _ => true | _ => false) = true → RepL K G xs vs → RepL K G' xs vs
  | [], _, _, h => h
  | x :: xs, _, l, ⟨v, r, h1, h2, h3⟩ => by
    rw [List.all_cons, Bool.and_eq_true] at l
    refine ⟨v, r, h1, ?_, repL_ints_del l.2 h3⟩
    cases x with
    | int i => exact h2
    | _ => cases l.1
end
def uCallP (f : FS) (i : Nat) (ua : DA) : DE := fun e P => ∃ q o, nth e i = .own q o ∧ ua e fun ds => hiO o = true ∧ f (o.d :: ds) fun r => ∃ d, r = .sh d ∧ lowD d = true ∧ P (.sh d)
theorem Ex1.del {K : PySem.W.Frag} {G G' : Hp} {o : OD} {hO : HO} {a : Addr} {x : Option HO} {u : HO} (hr : RepO K G o hO) (ga : G' a = some hO) (h : Ex1 G' x u) : Ex1 (del G' a) x u := h.imp id fun h => h.imp id fun ⟨q, ps, h1, h2, h3⟩ => ⟨q, ps, h1, h2, h3.1, fun pos cv hc => by
  obtain ⟨c', e1, e2⟩ := h3.2 pos cv hc
  exact ⟨c', e1, by rw [del_ne (fun z => by rw [z, ga] at e2; exact repO_code hr _ _ (Option.some.inj e2))]; exact e2⟩⟩
/-- ahead of it the source of draws -/
def uCallBP (f : FS) (j i : Nat) (ua : DA) : DE := fun e P => nth e j = .bag ∧ ∃ q o, nth e i = .own q o ∧ ua e fun ds => hiO o = true ∧ f (o.d :: ds) fun r => ∃ d, r = .sh d ∧ lowD d = true ∧ P (.sh d)
/-! ### bit_length, count of numbers -/
end
/-! ### a call with keywords -/
/-- n values by position, the others by these names; put into the parameters' order -/
def kput {α : Type} (n m : Nat) (π : List Nat) (us ws : List α) : List α := if us.length = n ∧ ws.length = m then π.filterMap fun i => (us ++ ws)[i]? else []
abbrev KB (K : PySem.W.Frag) (fd : FuncData) (ps : List Str) (n : Nat) (ks : List Str) (π : List Nat) : Prop := KBinds K fd ps ks (kput n ks.length π) (kput n ks.length π)
theorem vals_get {vs : List V} {us : List Value} (h : Vals vs us) (i : Nat) : (∃ v u, vs[i]? = some v ∧ us[i]? = some u ∧ RelV v u) ∨ (vs[i]? = none ∧ us[i]? = none) := by
  induction h generalizing i with
  | nil => exact .inr ⟨rfl, rfl⟩
  | cons r h ih =>
    cases i with
    | zero => exact .inl ⟨_, _, rfl, rfl, r⟩
    | succ i => exact ih i
theorem vals_fm {vs : List V} {us : List Value} (h : Vals vs us) : ∀ π : List Nat, Vals (π.filterMap fun i => vs[i]?) (π.filterMap fun i => us[i]?)
  | [] => .nil
  | i :: π => by
    rcases vals_get h i with ⟨v, u, h1, h2, r⟩ | ⟨h1, h2⟩
    · rw [List.filterMap_cons_some h1, List.filterMap_cons_some h2]
      exact .cons r (vals_fm h π)
    · rw [List.filterMap_cons_none h1, List.filterMap_cons_none h2]
      exact vals_fm h π
theorem vals_app {vs ws : List V} {us xs : List Value} (h : Vals vs us) (h' : Vals ws xs) : Vals (vs ++ ws) (us ++ xs) := by
  induction h with
  | nil => exact h'
  | cons r h ih => exact .cons r ih
theorem kb_mk {K : PySem.W.Frag} {fd : FuncData} {ps : List Str} {n : Nat} {ks : List Str} {π : List Nat} (h0 : ps ≠ [])
    (h : ∀ us ws : List Value, us.length = n → ws.length = ks.length → bindArgs fd ⟨us, ks.zip ws⟩ = pure (ps.zip (π.filterMap fun i => (us ++ ws)[i]?))) : KB K fd ps n ks π where
  to := fun s us ws _ hl => by
    unfold kput at hl ⊢
    split at hl
    · rename_i c
      rw [if_pos c]
      exact .of_eq (h us ws c.1 c.2)
    · cases ps with
      | nil => exact absurd rfl h0
      | cons p ps => simp at hl
  rel := fun {vs us zs ws} h1 h2 => by
    unfold kput
    rw [h1.length, h2.length]
    split
    · exact vals_fm (vals_app h1 h2) π
    · exact .nil
structure KnownK (P : Program) (w : World) (K : PySem.W.Frag) (mg : Str → Option Value) (base : Heap) (x : Str) (k : Nat) (ps : List Str) (pats : List (Nat × List Str × List Nat)) (sp : Sp) : Prop where
  ex : ∃ f fd, FnOk P w K mg base CX0 k f fd ps sp ∧ mg x = some (.ref f) ∧ PySem.W.keepIn K (.ref f) = true ∧ ∀ q ∈ pats, KB K fd ps q.1 q.2.1 q.2.2
/-- a def of the text stands at its name; it is called with keywords -/
structure HereK (K : PySem.W.Frag) (mg : Str → Option Value) (x : Str) (st : Stmt) (ps : List Str) (pats : List (Nat × List Str × List Nat)) : Prop where
  ex : ∃ f fd, Fun K x x st f fd ∧ mg x = some (.ref f) ∧ ∀ q ∈ pats, KB K fd ps q.1 q.2.1 q.2.2
section
variable {P : Program} {w : World} {K : PySem.W.Frag} {mg : Str → Option Value} {base : Heap}
end
section
variable {X : Cx} {b : Bg} {K : PySem.W.Frag}
/-- the values of the keywords -/
structure PDK (X : Cx) (b : Bg) (kws : List Keyword) (u : DA) : Prop where
  ex : ∃ t, PK X kws t ∧ LA X.K b t u
def uCallK (f : FS) (n m : Nat) (π : List Nat) (ua uk : DA) : DE := fun e P => ua e fun ds => uk e fun zs => f (kput n m π ds zs) P
end
end DL
/-! DL32: elimination over bit rows (plain mathematics, k40, k41). -/
namespace Tm
open PySem L2 DL PyProof.Rows
abbrev Bs := List (Nat × Nat × Nat)
/-- a row and its mark reduced by a basis -/
def red (bs : Bs) : Nat → Nat → Nat → Nat × Nat
  | 0, r, m => (r, m)
  | f + 1, r, m => if 1 < r then match aget bs (bl r) with
    | some (o, n) => red bs f (r ^^^ o) (m ^^^ n)
    | none => (r, m) else (r, m)
/-- the entries stand at their number of bits -/
def okB (bs : Bs) : Prop := ∀ q ∈ bs, bl q.2.1 = q.1 ∧ 2 ≤ q.1
theorem bl_pos {n : Nat} (h : 1 < n) : 2 ≤ bl n := by
  have : ¬ bl n ≤ 1 := fun z => by have := bl_lt.mp z; omega
  omega
theorem okB_get {bs : Bs} (h : okB bs) {n o m : Nat} (g : aget bs n = some (o, m)) : bl o = n ∧ 2 ≤ n := h _ (aget_in g)
theorem red_lt {bs : Bs} (h : okB bs) {r o m : Nat} (g : aget bs (bl r) = some (o, m)) : bl (r ^^^ o) < bl r := by
  have q := okB_get h g
  obtain ⟨k, hk⟩ : ∃ k, bl r = k + 1 := ⟨bl r - 1, by omega⟩
  have := bl_xor hk (q.1.trans hk)
  omega
/-- what a reduction keeps -/
theorem red_inv {bs : Bs} (I : Nat → Nat → Prop) (hI : ∀ r m n o p, I r m → aget bs n = some (o, p) → I (r ^^^ o) (m ^^^ p)) : ∀ (f r m : Nat), I r m → I (red bs f r m).1 (red bs f r m).2
  | 0, r, m, h => h
  | f + 1, r, m, h => by
    unfold red
    split
    · split
      · rename_i o p q
        exact red_inv I hI f _ _ (hI _ _ _ _ _ h q)
      · exact h
    · exact h
theorem red_end {bs : Bs} (h : okB bs) : ∀ (f r m : Nat), bl r ≤ f → 1 < (red bs f r m).1 → aget bs (bl (red bs f r m).1) = none
  | 0, r, m, hf, c => by
    have := bl_pos (show 1 < r from c); omega
  | f + 1, r, m, hf, c => by
    unfold red at c ⊢
    by_cases d : 1 < r
    · rw [if_pos d] at c ⊢
      cases q : aget bs (bl r) with
      | none => rw [q] at c; exact q
      | some p =>
        obtain ⟨o, n⟩ := p
        rw [q] at c
        have := red_lt h q
        exact red_end h f _ _ (by omega) c
    · rw [if_neg d] at c
      exact absurd c d
abbrev Eqn := List Nat × Nat
def rowE (q : Eqn) : Nat := rowN q.1 q.2
def redE (bs : Bs) (q : Eqn) (i : Nat) : Nat × Nat := red bs (bl (rowE q)) (rowE q) (2 ^ i)
/-- the rows one after the other: a contradiction's mark, or a basis -/
def elim : List Eqn → Nat → Bs → Sum Nat Bs
  | [], _, bs => .inr bs
  | q :: qs, i, bs => if (redE bs q i).1 = 1 then .inl (redE bs q i).2 else
    if 1 < (redE bs q i).1 then elim qs (i + 1) (bs ++ [(bl (redE bs q i).1, redE bs q i)]) else elim qs (i + 1) bs
/-- what the basis is after some equations -/
structure Elim (c : Nat) (eqs : List Eqn) (bs : Bs) : Prop where
  ok : okB bs
  nd : (bs.map (·.1)).Nodup
  small : ∀ q ∈ bs, q.1 ≤ c + 1
  low : ∀ q ∈ bs, q.2.2 < 2 ^ eqs.length
  comb : ∀ q ∈ bs, q.2.1 = comb (fun j => rowE (eqs.getD j ([], 0))) eqs.length q.2.2
  span : ∀ x, (∀ q ∈ bs, fR x q.2.1 = false) → ∀ q ∈ eqs, fR x (rowE q) = false
  len : bs.length ≤ eqs.length
structure EqOk (c : Nat) (q : Eqn) : Prop where
  nd : q.1.Nodup
  lt : ∀ u ∈ q.1, u < c
  v : q.2 ≤ 1
theorem row_bl {c : Nat} {q : Eqn} (h : EqOk c q) : bl (rowE q) ≤ c + 1 := by
  rw [bl_lt]
  refine Nat.lt_pow_two_of_testBit _ fun j hj => ?_
  obtain ⟨k, rfl⟩ : ∃ k, j = k + 1 := ⟨j - 1, by omega⟩
  unfold rowE
  rw [(rowN_bit q.2 h.v q.1 h.nd).2 k]
  exact decide_eq_false fun m => by have := h.lt _ m; omega
theorem comb_more {e e' : Nat → Nat} : ∀ {N m : Nat}, (∀ j < N, e j = e' j) → comb e N m = comb e' N m
  | 0, _, _ => rfl
  | N + 1, m, h => by rw [comb_succ, comb_succ, comb_more fun j hj => h j (by omega), h N (by omega)]
theorem comb_low (e : Nat → Nat) : ∀ {N m n : Nat}, m < 2 ^ N → N ≤ n → comb e n m = comb e N m
  | N, m, 0, h, hn => by rw [show N = 0 by omega]
  | N, m, n + 1, h, hn => by
    by_cases q : N = n + 1
    · rw [q]
    · rw [comb_succ, Nat.testBit_lt_two_pow (Nat.lt_of_lt_of_le h (Nat.pow_le_pow_right (by decide) (by omega)))]
      exact comb_low e h (by omega)
theorem xor_bl {a b k : Nat} (ha : bl a ≤ k) (hb : bl b ≤ k) : bl (a ^^^ b) ≤ k := bl_lt.mpr (Nat.xor_lt_two_pow (bl_lt.mp ha) (bl_lt.mp hb))
theorem getD_snoc {eqs : List Eqn} {q d : Eqn} {j : Nat} (h : j < eqs.length) : (eqs ++ [q]).getD j d = eqs.getD j d := by
  rw [List.getD_eq_getElem?_getD, List.getD_eq_getElem?_getD, List.getElem?_append_left h]
theorem getD_last {eqs : List Eqn} {q d : Eqn} : (eqs ++ [q]).getD eqs.length d = q := by
  rw [List.getD_eq_getElem?_getD, List.getElem?_append_right (Nat.le_refl _), Nat.sub_self]; rfl
abbrev rowsF (eqs : List Eqn) : Nat → Nat := fun j => rowE (eqs.getD j ([], 0))
/-- one row reduced -/
theorem red_one {c : Nat} {eqs : List Eqn} {bs : Bs} {q : Eqn} (E : Elim c eqs bs) (hq : EqOk c q) :
    (redE bs q eqs.length).2 < 2 ^ (eqs.length + 1) ∧ bl (redE bs q eqs.length).1 ≤ c + 1 ∧ (redE bs q eqs.length).1 = comb (rowsF (eqs ++ [q])) (eqs.length + 1) (redE bs q eqs.length).2 ∧
    (∀ x, (∀ p ∈ bs, fR x p.2.1 = false) → fR x (redE bs q eqs.length).1 = fR x (rowE q)) ∧ (1 < (redE bs q eqs.length).1 → bl (redE bs q eqs.length).1 ∉ bs.map (·.1)) := by
  have key := red_inv (bs := bs) (fun r m => m < 2 ^ (eqs.length + 1) ∧ bl r ≤ c + 1 ∧ r = comb (rowsF (eqs ++ [q])) (eqs.length + 1) m ∧ ∀ x, (∀ p ∈ bs, fR x p.2.1 = false) → fR x r = fR x (rowE q)) (fun r m n o p ⟨h1, h2, h3, h4⟩ g => by
    have gi := aget_in g
    have l := E.low _ gi
    have sm := E.small _ gi
    have ok := E.ok _ gi
    have cb := E.comb _ gi
    dsimp only at l sm ok cb
    refine ⟨Nat.xor_lt_two_pow h1 (Nat.lt_of_lt_of_le l (Nat.pow_le_pow_right (by decide) (by omega))), xor_bl h2 (by omega), ?_, fun x hx => ?_⟩
    · rw [comb_xor, ← h3]
      congr 1
      rw [cb, comb_low _ l (Nat.le_succ _)]
      refine comb_more fun j hj => ?_
      show rowE _ = rowE _
      rw [getD_snoc hj]
    · rw [fR_xor, h4 x hx, hx _ gi]; cases fR x (rowE q) <;> rfl) (bl (rowE q)) (rowE q) (2 ^ eqs.length) ⟨Nat.pow_lt_pow_right (by decide) (Nat.lt_succ_self _), row_bl hq, by
      rw [comb_two, if_pos (Nat.lt_succ_self _)]
      show _ = rowE _
      rw [getD_last], fun x _ => rfl⟩
  refine ⟨key.1, key.2.1, key.2.2.1, key.2.2.2, fun h => ?_⟩
  have := red_end E.ok (bl (rowE q)) (rowE q) (2 ^ eqs.length) (Nat.le_refl _) h
  intro m
  have m' := aget_mem.mpr m
  rw [show bl (redE bs q eqs.length).1 = bl (red bs (bl (rowE q)) (rowE q) (2 ^ eqs.length)).1 from rfl, this] at m'
  cases m'
theorem Elim.nil (c : Nat) : Elim c [] [] := ⟨fun q h => (by cases h), List.nodup_nil, fun q h => (by cases h), fun q h => (by cases h), fun q h => (by cases h), fun x _ q h => (by cases h), Nat.le_refl _⟩
theorem Elim.comb' {c : Nat} {eqs : List Eqn} {bs : Bs} (E : Elim c eqs bs) (q : Eqn) {p : Nat × Nat × Nat} (hp : p ∈ bs) : p.2.1 = Tm.comb (rowsF (eqs ++ [q])) (eqs ++ [q]).length p.2.2 := by
  have h : Tm.comb (fun j => rowE (eqs.getD j ([], 0))) eqs.length p.2.2 = Tm.comb (rowsF (eqs ++ [q])) eqs.length p.2.2 := comb_more fun j hj => by
    show rowE _ = rowE _
    rw [getD_snoc hj]
  exact (E.comb p hp).trans (h.trans (comb_low _ (E.low p hp) (by simp)).symm)
theorem Elim.low' {c : Nat} {eqs : List Eqn} {bs : Bs} (E : Elim c eqs bs) (q : Eqn) {p : Nat × Nat × Nat} (hp : p ∈ bs) : p.2.2 < 2 ^ (eqs ++ [q]).length :=
  Nat.lt_of_lt_of_le (E.low p hp) (Nat.pow_le_pow_right (by decide) (by simp))
theorem Elim.skip {c : Nat} {eqs : List Eqn} {bs : Bs} {q : Eqn} (E : Elim c eqs bs) (hq : EqOk c q) (h1 : (redE bs q eqs.length).1 ≠ 1) (h2 : ¬ 1 < (redE bs q eqs.length).1) : Elim c (eqs ++ [q]) bs := by
  obtain ⟨k1, k2, k3, k4, k5⟩ := red_one E hq
  refine ⟨E.ok, E.nd, E.small, fun p hp => E.low' q hp, fun p hp => E.comb' q hp, fun x hx p hp => ?_, by rw [List.length_append]; have := E.len; omega⟩
  rcases List.mem_append.mp hp with hp | hp
  · exact E.span x hx p hp
  · rw [List.mem_singleton.mp hp, ← k4 x hx, show (redE bs q eqs.length).1 = 0 by omega]
    exact fR_zero x
theorem Elim.add {c : Nat} {eqs : List Eqn} {bs : Bs} {q : Eqn} (E : Elim c eqs bs) (hq : EqOk c q) (h2 : 1 < (redE bs q eqs.length).1) : Elim c (eqs ++ [q]) (bs ++ [(bl (redE bs q eqs.length).1, redE bs q eqs.length)]) := by
  obtain ⟨k1, k2, k3, k4, k5⟩ := red_one E hq
  have sp : ∀ {Z : Nat × Nat × Nat → Prop}, (∀ p ∈ bs, Z p) → Z (bl (redE bs q eqs.length).1, redE bs q eqs.length) → ∀ p ∈ bs ++ [(bl (redE bs q eqs.length).1, redE bs q eqs.length)], Z p := fun a b p hp => by
    rcases List.mem_append.mp hp with hp | hp
    · exact a p hp
    · rw [List.mem_singleton.mp hp]; exact b
  refine ⟨sp E.ok ⟨rfl, bl_pos h2⟩, ?_, sp E.small k2, sp (fun p hp => E.low' q hp) (by rw [List.length_append]; exact k1), sp (fun p hp => E.comb' q hp) (by rw [List.length_append]; exact k3), fun x hx p hp => ?_, by rw [List.length_append, List.length_append]; have := E.len; simp; omega⟩
  · rw [List.map_append]
    refine List.nodup_append.mpr ⟨E.nd, by simp, ?_⟩
    intro a ha b hb
    rw [List.map_singleton, List.mem_singleton] at hb
    intro z
    subst z
    rw [hb] at ha
    exact k5 h2 ha
  · have hx' : ∀ p ∈ bs, fR x p.2.1 = false := fun p hp => hx p (List.mem_append_left _ hp)
    rcases List.mem_append.mp hp with hp | hp
    · exact E.span x hx' p hp
    · rw [List.mem_singleton.mp hp, ← k4 x hx']
      exact hx _ (List.mem_append_right _ (List.mem_singleton.mpr rfl))
/-! the two answers -/
structure SolOk (c : Nat) (rs : List (Nat × Nat)) (x : List Nat) : Prop where
  lt : ∀ u ∈ x, u < c ∧ ∃ q ∈ rs, u + 2 = q.1
  up : x.Pairwise (· < ·)
  zero : ∀ q ∈ rs, fR x q.2 = false
end Tm
namespace Tm
open PySem L2 DL PyProof.Rows
def holds (x : List Nat) (q : Eqn) : Prop := (q.1.filter fun u => decide (u ∈ x)).length % 2 = q.2
end Tm
namespace DL
open PySem L2 PyProof.Rows
section
variable {X : Cx} {b : Bg} {K : PySem.W.Frag}
/-- a, b, c = x, y, z where the last stays new -/
def uPar3 (i j l : Nat) (own : Bool) (u1 u2 u3 : DE) : DS := fun DD e => u1 e (R.keep fun d1 => u2 e (R.keep fun d2 => u3 e fun r3 => r3.into own fun s3 => DD.nx (((e.set i (.sh d1)).set j (.sh d2)).set l s3)))
end
end DL
namespace DL
theorem e_kput1 {α : Type} {a b : α} : kput 1 1 [0, 1] [a] [b] = [a, b] := rfl
theorem e_into4 {o : OD} {P : Sl → Prop} : R.into true P (.ow o) = P (.own none o) := rfl
theorem e_into5 {d : D} {P : Sl → Prop} : R.into false P (.sh d) = (false = false ∧ P (.sh d)) := rfl
end DL
namespace DL
open PySem L2 PyProof.Rows
theorem enums_map {α : Type} (f : α → D) (xs : List α) : enums (xs.map f) = xs.zipIdx.map fun q => .tup [.int (q.2 : Nat), f q.1] := by
  unfold enums
  refine List.ext_getElem? fun i => ?_
  rw [List.getElem?_zipWith, List.length_map, List.getElem?_map, List.getElem?_map, List.getElem?_zipIdx]
  cases h : xs[i]? with
  | none =>
    cases q : (List.range xs.length)[i]? <;> rfl
  | some x =>
    have hi : i < xs.length := (List.getElem?_eq_some_iff.mp h).1
    rw [List.getElem?_range hi]
    simp
end DL
namespace DL
open PySem L2 PyProof.Rows
/-! ### an owned thing lent to an expression -/
def flatO : OD → Bool
  | .lst xs => xs.all flatD
  | .dk kvs => kvs.all fun kv => flatD kv.2
  | .obj _ fs => fs.all fun kv => flatD kv.2
def lentR (hi : Bool) : R → Bool
  | .sh d => flatD d || (hi && lowD d)
  | .ow (.lst xs) => xs.all flatD || (hi && lowL xs)
  | .ow o => flatO o
  | .al _ _ => false
  | .tr _ => false
section
variable {X : Cx} {b : Bg} {K : PySem.W.Frag}
/-- slot i's thing is lent to e; what e answers holds no part of it -/
def uLend (hi : Bool) (i : Nat) (u : DE) : DE := fun e P => ∃ q o, nth e i = .own q o ∧ (hi = true → hiO o = true) ∧ u (e.set i (.sh o.d)) fun r => lentR hi r = true ∧ P r
end
end DL
namespace DL
open PySem L2 PyProof.Rows
/-! ### sorted(d), numbers, any number of them -/
theorem call_sortBig {X : Cx} (calm : X.calm = true) : CallR X (.builtin "sorted") (fun xs H Q => ∃ (a : Addr) (kvs : List (Key × V)) (ns : List Int), xs = [.ref a] ∧ Rd H a (.dK kvs) ∧ kvs.map (·.1) = ns.map Sum.inl ∧ ns.length ≤ 1000000 ∧
    ∀ (zs : List Int) (p : Addr), zs.Perm ns → zs.Pairwise (· ≤ ·) → H p = none → Q (.ref p) (upd H p (.lst (zs.map V.int)))) := by
  intro pins s σ H xs us Q I rx ⟨a, kvs, ns, hxs, hd, hk, hn, kk⟩
  subst hxs
  obtain ⟨x, rfl, ra⟩ := vals1 rx
  cases ra
  obtain ⟨_, lay, ps, hrel, hdict⟩ := dk_rd I.hok hd
  obtain ⟨epoch, at_⟩ := hdict.dictAt
  have keys := hrel.keys.symm.trans hk
  have len : ps.length = ns.length := by simpa using congrArg List.length keys
  have fits : ns.length ≤ sizeLine := by rw [sizeLine_eq]; omega
  refine Calls.call_function_entry kind_sorted plain_sorted entry_sorted (args_sorted1 _) (wpAny_bind (m := checkCount "sorted" 1 1 _) (wpAny_pure (wpAny_bind ?_)))
  refine PySem.W.kdu_collect (A := X.A.in1) (PySem.W.kdl_dict (knd := mixKind X.prog X.w) (kvs := ps) (ep := epoch) lay) (I.ok.hd calm) at_ (len ▸ fits) fun g tk out hg ho => ?_
  have olen : out.toList.length = ns.length := by rw [Array.length_toList, ho.1, len]
  have hi : IntsAre out.toList ns := ints_each olen fun j v e => by
    obtain ⟨k, w, h1, h2⟩ := ho.2 j v (by simpa using e)
    have h3 : (ps.map (·.1))[j]? = some k := by simp [h1]
    rw [keys, List.getElem?_map] at h3
    obtain ⟨y, hy, rfl⟩ := Option.map_eq_some_iff.mp h3
    obtain ⟨i, t, e1, e2⟩ | ⟨z, t, e1, e2⟩ := keyIs_shape (show keyIs (Sum.inl y) v = true from h2)
    · cases e1; exact ⟨y, t, hy, e2⟩
    · cases e1
  have I1 : Inv X pins σ H { s with heap := g, toks := tk } := I.kept hg
  refine wpAny_bind (wpAny_newList ?_ (by rw [olen]; exact fits))
  have hL := Heap.get?_push_size g (o := seqObj "list" out.toList.toArray 0) rfl
  refine wpAny_bind (wpAny_holding (wpAny_call_entry slot_list_sort ⟨_, hL, rfl⟩ entry_list_sort (SrtO.list_sort_ord (s := { s with heap := g.push (seqObj "list" out.toList.toArray 0), toks := tk }) SrtO.swo_int hL (by rw [olen]; exact fits) (fun h => SrtO.ints_sortable hi h) fun zs h1 h2 => ⟨_, rfl, ?_⟩) (args_list_sort _)))
  obtain ⟨k1, k2, k3⟩ := SrtO.ints_out hi h1 h2
  obtain ⟨ep, hz⟩ := sortedHeap_at (vs := out.toList) (out := zs.toArray) hL
  have zl : ((zs.map SrtO.iv).map V.int).length ≤ sizeLine := by rw [List.length_map, k2.length_eq]; exact fits
  refine wpAny_pure ⟨_, rfl, .ref g.objs.size, upd H g.objs.size (.lst ((zs.map SrtO.iv).map V.int)), I1.laid (t' := tk) (fun c u e => ?_) (Nat.le_refl _) (show ObjOk X.prog X.w _ _ _ (.lst ((zs.map SrtO.iv).map V.int)) from ⟨zl, zs, ep, vals_of_ints k1, hz⟩), rfl, kk _ _ k2 k3 (I1.hok.fresh (Nat.le_refl _))⟩
  have lt : c < g.objs.size := Heap.lt_size e
  rw [sortedHeap_old (Nat.ne_of_lt lt) (by rw [size_push']; exact Nat.lt_succ_of_lt lt)]
  exact Heap.get?_push_of_some _ e
section
variable {X : Cx} {b : Bg} {K : PySem.W.Frag}
def rSrtU (K : PySem.W.Frag) : List V → Hp → VK → Prop := fun xs H Q => rSrt K xs H Q ∨ (fun xs H Q => ∃ (a : Addr) (kvs : List (Key × V)) (ns : List Int), xs = [.ref a] ∧ Rd H a (.dK kvs) ∧ kvs.map (·.1) = ns.map Sum.inl ∧ ns.length ≤ 1000000 ∧
    ∀ (zs : List Int) (p : Addr), zs.Perm ns → zs.Pairwise (· ≤ ·) → H p = none → Q (.ref p) (upd H p (.lst (zs.map V.int)))) xs H Q
/-- sorted(..), a dict with any number of numbers for keys among them -/
def fSortedU (d : D) (P : R → Prop) : Prop := fSorted d P ∨ ∃ kvs ns, d = .dk kvs ∧ kvs.map (·.1) = ns.map Sum.inl ∧ ns.length ≤ 1000000 ∧ ordI ns P
theorem lc_sortedU : LC K (rSrtU K) fSortedU := by
  intro b L G0 H0 G H σ e d x P Q g h hf k
  rcases hf with hf | ⟨kvs, ns, rfl, e1, hn, q⟩
  · exact .inl (lc_sorted b L G0 H0 G H σ e d x P Q g h hf k)
  · obtain ⟨a, vs, rfl, ha, hr⟩ := h
    exact .inr ⟨a, vs, ns, rfl, ha, (repK_keys hr).trans e1, hn, fun ys p pm so np => g.newL (repL_ints' ys) (q ys pm so) k p np⟩
/-! ### a call by keywords alone -/
theorem e_kput2 {α : Type} {a b : α} : kput 0 2 [1, 0] [] [a, b] = [b, a] := rfl
end
end DL
namespace DL
open PySem L2 PyProof.Rows
/-! ### enumerate(tuple) -/
section
variable {X : Cx} {b : Bg} {K : PySem.W.Frag}
/-- enumerate(xs), a list or a tuple -/
def asLT (P : List D → Prop) : D → Prop
  | .lst xs => P xs
  | .tup xs => P xs
  | _ => False
def uEnumQ (u : DE) : DI := fun e P => u e (R.keep (asLT fun xs => P (enums xs)))
theorem e_aslt1 {xs : List D} {P : List D → Prop} : asLT P (.lst xs) = P xs := rfl
theorem e_aslt2 {xs : List D} {P : List D → Prop} : asLT P (.tup xs) = P xs := rfl
end
end DL
namespace DL
open PySem L2 PyProof.Rows
section
variable {X : Cx} {b : Bg} {K : PySem.W.Frag}
/-! ### comprehensions with two walks -/
def uLc2 (ui : DI) (ug : DG) (ut : DT) (ui1 : DI) (ug1 : DG) (ut1 : DT) (ue : DE) (vs vs1 : List Nat) : DE := fun e P => ui e fun xs => ∃ W : Nat → List D → Prop, W 0 [] ∧
  (∀ (i : Nat) x acc, xs[i]? = some x → W i acc → ug x (wipeE e vs) fun e2 => ut e2 fun c => if c = true then ui1 e2 fun ys => ∃ W1 : Nat → List D → Prop, W1 0 acc ∧
    (∀ (j : Nat) y acc1, ys[j]? = some y → W1 j acc1 → ug1 y (wipeE e2 vs1) fun e3 => ut1 e3 fun c1 => if c1 = true then ue e3 (R.keep fun d => acc1.length < 1000000 ∧ W1 (j + 1) (acc1 ++ [d])) else W1 (j + 1) acc1) ∧ ∀ acc1, W1 ys.length acc1 → W (i + 1) acc1
    else W (i + 1) acc) ∧ ∀ acc, W xs.length acc → P (.ow (.lst acc))
theorem BagOk.at {G H H' : Hp} {a : Addr} (h : BagOk G H a) (e : H' a = H a) : BagOk G H' a := by
  obtain ⟨h1, q, ns, i, n, z, h2, h3⟩ := h
  exact ⟨h1, q, ns, i, n, z, by rw [e]; exact h2, h3⟩
theorem XL.enter {L : Lk} {G0 H0 : Hp} {D : Addr} {o : HO} (x : XL K b L G0 H0) (h0 : H0 D = none) (nb : b.a ≠ some D) : XL K b L G0 (L2.upd H0 D o) := ⟨x.1, fun hL y cls d σ G' H' st hx hp ⟨F, hF, hi⟩ => x.2 hL y cls d σ G' H' ⟨st.g, fun a u hb nm h => st.fr a u hb nm (by
    rw [upd_ne (fun z => by rw [z, h0] at h; cases h)]; exact h), fun a hb h hg => st.new a hb (by
    rw [upd_ne (fun z => by rw [z, h0] at h; exact h rfl)]; exact h) hg, st.ex, fun a ha h => st.bag a ha (h.at (upd_ne fun z => nb (by rw [ha, z])))⟩ hx hp ⟨F, fun a h => by
    have := hF a h
    by_cases z : a = D
    · rw [z]; exact h0
    · rwa [upd_ne z] at this, hi⟩⟩
/-- a thing made since counts as there from the start -/
theorem Good.enter {L : Lk} {G0 H0 G1 H1 G H : Hp} {σ : L2.St} {e : List Sl} {D : Addr} {o : HO} (g1 : Good K b L G0 H0 G1 H1 σ e) (st : Stp b [] G1 H1 G H) (hD : H1 D = none) (hH : H D = some o) (hG : G D = none) : Good K b L G0 (L2.upd H0 D o) G H σ e := by
  have nb : b.a ≠ some D := g1.nb hD
  have g := g1.step st
  refine ⟨⟨⟨g.stp.g, fun a x hb nm h => ?_, fun a hb h hg => ?_, g.ex, fun a ha h => ?_⟩, fun i x hx => ?_, g.inj, g.bag, g.lk, g.len, g.injT⟩, g1.xl.enter (g1.fresh nb hD).1 nb⟩
  · by_cases c : a = D
    · subst c; rw [upd_same] at h; cases h; exact .inl hH
    · rw [upd_ne c] at h; exact g.stp.fr a x hb nm h
  · by_cases c : a = D
    · subst c; exact hG
    · rw [upd_ne c] at h; exact g.stp.new a hb h hg
  · have c : a ≠ D := fun z => nb (by rw [ha, z])
    exact g.stp.bag a ha (h.at (upd_ne c).symm)
  · have q := g.slot i x hx
    cases x with
    | own t u =>
      obtain ⟨a, ho, z1, z2, z3, z4⟩ := q
      obtain ⟨a', ho', y1, y2, y3, y4, y5, y6⟩ := g1.slot i _ hx
      rw [z1] at y1
      cases y1
      have c : a ≠ D := fun z => by rw [z, hD] at y5; cases y5
      exact ⟨a, ho, z1, z2, by rw [upd_ne c]; exact z3, z4⟩
    | tr t =>
      obtain ⟨v, z1, z2⟩ := q
      obtain ⟨_, _, y2⟩ := g1.slot i _ hx
      refine ⟨v, z1, z2.node, z2.rep, z2.nd, fun c hc => ⟨(z2.ok c hc).1, ?_, (z2.ok c hc).2.2⟩⟩
      obtain ⟨o1, ho1⟩ := y2.rep.live c hc
      have nc : c ≠ D := fun z => by rw [z, hD] at ho1; cases ho1
      show L2.upd H0 D o c = none
      rw [upd_ne nc]
      exact (z2.ok c hc).2.1
    | _ => exact q
/-- .. and changes -/
theorem Good.turn {L : Lk} {G0 H0 G H : Hp} {σ : L2.St} {e : List Sl} {D : Addr} {o o' : HO} (g : Good K b L G0 (L2.upd H0 D o) G H σ e) (x : XL K b L G0 H0) (h0 : H0 D = none) (nb : b.a ≠ some D) (hG : G D = none) (hH : H D = some o) (nf : ∀ od u, o ≠ .frz od u) : Good K b L G0 (L2.upd H0 D o') G (L2.upd H D o') σ e := by
  refine ⟨⟨⟨g.stp.g, fun a x hb nm h => ?_, fun a hb h hg => ?_, fun a u h => ?_, fun a ha h => ?_⟩, fun i x hx => ?_, g.inj, fun a ha => ?_, fun a od u m => ?_, g.len, g.injT⟩, x.enter h0 nb⟩
  · by_cases c : a = D
    · subst c; rw [upd_same] at h ⊢; exact .inl h
    · rw [upd_ne c] at h ⊢
      exact g.stp.fr a x hb nm (by rw [upd_ne c]; exact h)
  · by_cases c : a = D
    · subst c; exact hG
    · rw [upd_ne c] at h
      exact g.stp.new a hb (by rw [upd_ne c]; exact h) hg
  · have c : a ≠ D := fun z => by rw [z, hG] at h; cases h
    rw [upd_ne c]
    exact g.ex a u h
  · have c : a ≠ D := fun z => nb (by rw [ha, z])
    exact (g.stp.bag a ha (h.at (by rw [upd_ne c, upd_ne c]))).at (upd_ne c)
  · have q := g.slot i x hx
    cases x with
    | own t u =>
      obtain ⟨a, ho, z1, z2, z3, z4, z5, z6⟩ := q
      have c : a ≠ D := fun z => by rw [z, upd_same] at z3; cases z3
      exact ⟨a, ho, z1, z2, by rw [upd_ne c] at z3 ⊢; exact z3, z4, by rw [upd_ne c]; exact z5, z6⟩
    | tr t =>
      obtain ⟨v, z1, z2⟩ := q
      have nc : ∀ c ∈ t.ad, c ≠ D := fun c hc z => by
        have := (z2.ok c hc).2.1
        rw [z, upd_same] at this
        cases this
      refine ⟨v, z1, z2.node, z2.rep.frame (Sub.refl G) fun c hc o1 ho1 => by rw [upd_ne (nc c hc)]; exact ho1, z2.nd, fun c hc => ⟨(z2.ok c hc).1, ?_, (z2.ok c hc).2.2⟩⟩
      have := (z2.ok c hc).2.1
      rw [upd_ne (nc c hc)] at this
      show L2.upd H0 D o' c = none
      rw [upd_ne (nc c hc)]
      exact this
    | _ => exact q
  · have c : a ≠ D := fun z => nb (by rw [ha, z])
    exact (g.bag a ha).at (upd_ne c)
  · have q := g.lk a od u m
    have c : a ≠ D := fun z => by
      rw [z, hH] at q
      exact nf _ _ (Option.some.inj q)
    rw [upd_ne c]; exact q
theorem le_lc2 {wi wi1 : TI} {ui ui1 : DI} {g g1 : TG} {js js1 : List Nat} {ug ug1 : DG} {tt tt1 : TT} {ut ut1 : DT} {te : TE} {ue : DE} {vs vs1 : List Nat} (hi : LI K b wi ui) (hg : LG K b js g ug) (ht : LT K b tt ut) (hi1 : LI K b wi1 ui1) (hg1 : LG K b js1 g1 ug1) (ht1 : LT K b tt1 ut1) (he : LE K b te ue) (hj : ∀ j ∈ js, j ∈ vs) (hj1 : ∀ j ∈ js1, j ∈ vs1) : LE K b (tLc2 wi g tt wi1 g1 tt1 te vs vs1) (uLc2 ui ug ut ui1 ug1 ut1 ue vs vs1) := by
  intro L G0 H0 G H σ e P Q gd hu k
  refine hi L G0 H0 G H σ e _ _ gd hu fun J xs G1 H1 s1 hJ q => ?_
  obtain ⟨W, w0, hs, hd⟩ := q
  have gA := gd.step s1
  intro Dl hD
  have nb : b.a ≠ some Dl := gA.nb hD
  have hD0 : H0 Dl = none := (gA.fresh nb hD).1
  have s0 : Stp b [] G1 H1 G1 (L2.upd H1 Dl (.lst [])) := Stp.made gA.ex hD
  refine ⟨fun i m H => m = xs.length - i ∧ i ≤ xs.length ∧ ∃ G acc va, Stp b [] G1 H1 G H ∧ G Dl = none ∧ H Dl = some (.lst va) ∧ RepL K G acc va ∧ W i acc, ⟨xs.length, by simp, Nat.zero_le _, G1, [], [], s0, gA.ex.none hD, upd_same, rfl, w0⟩, ?_⟩
  rintro i m H ⟨rfl, hi0, G', acc, va, st, hgD, hHD, hra, w⟩
  have gg := (gA.wipe vs).enter st hD hHD hgD
  obtain ⟨j1, j2⟩ := hJ G' H st.g st.ex (gA.step st).lk i
  by_cases c : i < xs.length
  · obtain ⟨go, y⟩ := j1 xs[i] (by simp [c])
    refine .inr ⟨go, fun H' => ∃ G acc va, Stp b [] G1 H1 G H' ∧ G Dl = none ∧ H' Dl = some (.lst va) ∧ RepL K G acc va ∧ W (i + 1) acc, fun H' q => ⟨xs.length - (i + 1), by omega, rfl, by omega, q⟩, fun v H2 hy => ?_⟩
    obtain ⟨G2, s2, hx⟩ := y v H2 hy
    have g2 := gg.step s2
    refine hg L G0 _ G2 H2 _ _ _ v _ _ g2 hx (hs i xs[i] acc (by simp [c]) w) fun σ3 e3 g3 w3 q3 => ⟨by rw [w3 vs hj, wipe_wipe], ?_⟩
    refine ht L G0 _ G2 H2 σ3 e3 _ _ g3 q3 fun c3 G4 H4 s4 q4 => ?_
    have g4 := g3.step s4
    have s14 := (st.trans s2).trans s4
    have d2 : G2 Dl = none := s2.new Dl nb (by rw [hHD]; simp) hgD
    have d4 : G4 Dl = none := s4.new Dl nb (by rw [s2.fr0 nb hHD]; simp) d2
    have h4 : H4 Dl = some (.lst va) := s4.fr0 nb (s2.fr0 nb hHD)
    have r4 := (hra.mono s2.g).mono s4.g
    cases c3 with
    | false => exact ⟨G4, acc, va, s14, d4, h4, r4, q4⟩
    | true =>
      refine hi1 L G0 _ G4 H4 σ3 e3 _ _ g4 q4 fun J1 ys G5 H5 s5 hJ1 q5 => ?_
      obtain ⟨W1, v0, ts, td⟩ := q5
      have g5 := g4.step s5
      have d5 : G5 Dl = none := s5.new Dl nb (by rw [h4]; simp) d4
      have h5 : H5 Dl = some (.lst va) := s5.fr0 nb h4
      refine ⟨fun j m H => m = ys.length - j ∧ j ≤ ys.length ∧ ∃ G acc va, Good K b L G0 (L2.upd H0 Dl (.lst va)) G H σ3 e3 ∧ Sub G5 G ∧ Stp b [] G1 H1 G H ∧ G Dl = none ∧ H Dl = some (.lst va) ∧ RepL K G acc va ∧ W1 j acc, ⟨ys.length, by simp, Nat.zero_le _, G5, acc, va, g5, Sub.refl _, s14.trans s5, d5, h5, r4.mono s5.g, v0⟩, ?_⟩
      rintro j m H ⟨rfl, hj0, G6, acc, va, g6, sb6, s16, d6, h6, r6, v6⟩
      obtain ⟨k1, k2⟩ := hJ1 G6 H sb6 g6.ex g6.lk j
      by_cases cc : j < ys.length
      · obtain ⟨go1, y1⟩ := k1 ys[j] (by simp [cc])
        refine .inr ⟨go1, fun H' => ∃ G acc va, Good K b L G0 (L2.upd H0 Dl (.lst va)) G H' σ3 e3 ∧ Sub G5 G ∧ Stp b [] G1 H1 G H' ∧ G Dl = none ∧ H' Dl = some (.lst va) ∧ RepL K G acc va ∧ W1 (j + 1) acc, fun H' q => ⟨ys.length - (j + 1), by omega, rfl, by omega, q⟩, fun v7 H7 hy7 => ?_⟩
        obtain ⟨G7, s7, hx7⟩ := y1 v7 H7 hy7
        have g7 := (g6.step s7).wipe vs1
        refine hg1 L G0 _ G7 H7 _ _ _ v7 _ _ g7 hx7 (ts j ys[j] acc (by simp [cc]) v6) fun σ8 e8 g8 w8 q8 => ⟨by rw [w8 vs1 hj1, wipe_wipe], ?_⟩
        refine ht1 L G0 _ G7 H7 σ8 e8 _ _ g8 q8 fun c9 G9 H9 s9 q9 => ?_
        have g9 := g8.step s9
        have d7 : G7 Dl = none := s7.new Dl nb (by rw [h6]; simp) d6
        have h7 : H7 Dl = some (.lst va) := s7.fr0 nb h6
        have d9 : G9 Dl = none := s9.new Dl nb (by rw [h7]; simp) d7
        have h9 : H9 Dl = some (.lst va) := s9.fr0 nb h7
        have r9 := (r6.mono s7.g).mono s9.g
        cases c9 with
        | false => exact ⟨G9, acc, va, (g6.step s7).step s9, (sb6.trans s7.g).trans s9.g, (s16.trans s7).trans s9, d9, h9, r9, q9⟩
        | true =>
          refine he L G0 _ G9 H9 σ8 e8 _ _ g9 q9 fun va' ra GA HA sA hrA qA => ?_
          obtain ⟨dB, GB, sB, hdB, hl, qB⟩ := hrA.freeze sA qA
          have dd : GB Dl = none := sB.new Dl nb (by rw [h9]; simp) d9
          have hh : HA Dl = some (.lst va) := sB.fr0 nb h9
          have rB : RepL K GB acc va := r9.mono sB.g
          have gB : Good K b L G0 (L2.upd H0 Dl (.lst va)) GB HA σ3 e3 := ((g6.step s7).step s9).step sB
          exact ⟨va, hh, by rw [rB.length]; exact lt_line hl, GB, acc ++ [dB], va ++ [va'], gB.turn gd.xl hD0 nb dd hh (fun _ _ z => by cases z), ((sb6.trans s7.g).trans s9.g).trans sB.g, (((s16.trans s7).trans s9).trans sB).mut nb hD dd, dd, upd_same, rB.append (RepL.one hdB), qB⟩
      · have e1 : j = ys.length := by omega
        subst e1
        exact .inl ⟨k2 (Nat.le_refl _), G6, acc, va, s16, d6, h6, r6, td acc v6⟩
  · have e1 : i = xs.length := by omega
    subst e1
    refine .inl ⟨j2 (Nat.le_refl _), ?_⟩
    exact k _ (.ow (.lst acc)) G' H (s1.trans st) ⟨Dl, _, rfl, nb, s1.back Dl nb hD, hgD, hHD, va, rfl, hra⟩ (hd acc w)
theorem blk_i {scope : Scope} {tg it : Expr} {u : DI} (h : Blk X scope fun Y => PDI Y b tg it u) : ∃ t, (∀ (s : Shared) (H : Hp) (C : Addr) (cl : List (Str × Addr)) (fp : List Addr), PI (X.blk s H scope (compEnvC scope cl C X.env) fp) tg it t) ∧ LI X.K b t u := by
  have q : ∀ z : Shared × Hp × Addr × List (Str × Addr) × List Addr, ∃ t, PI (X.blk z.1 z.2.1 scope (compEnvC scope z.2.2.2.1 z.2.2.1 X.env) z.2.2.2.2) tg it t ∧ LI X.K b t u := fun z => (h z.1 z.2.1 z.2.2.1 z.2.2.2.1 z.2.2.2.2).ex
  exact ⟨fun σ H R => ∀ z, (q z).choose σ H R, fun s H C cl fp => ⟨fun pins s' σ' H' R I hh => (q (s, H, C, cl, fp)).choose_spec.1.run pins s' σ' H' R I (hh _)⟩, fun L G0 H0 G H σ e P Q g hu k z => (q z).choose_spec.2 L G0 H0 G H σ e P Q g hu k⟩
theorem ds_setLc2 {i : Nat} {y : Str} {py : Pos} {elt tg iter tg1 iter1 : Expr} {ifs ifs1 : List Expr} {scope : Scope} {own : List (Str × Nat)} {vs1 : List Nat} {pos spos : Pos} {ui ui1 : DI} {js js1 : List Nat} {ug ug1 : DG} {ut ut1 : DT} {ue : DE} (hN : X.N.Nodup) (ok : blkC X.N X.env.scope scope own = true) (hv : ∀ i ∈ vs1, i ∈ own.map (·.2)) (hj : ∀ j ∈ js, j ∈ own.map (·.2)) (hj1 : ∀ j ∈ js1, j ∈ vs1) (hi : PDI X b tg iter ui)
    (hg : Blk X scope fun Y => PDG Y b tg js ug) (ht : Blk X scope fun Y => PDTs Y b ifs ut) (hi1 : Blk X scope fun Y => PDI Y b tg1 iter1 ui1) (hg1 : Blk X scope fun Y => PDG Y b tg1 js1 ug1) (ht1 : Blk X scope fun Y => PDTs Y b ifs1 ut1) (he : Blk X scope fun Y => PD Y b elt ue)
    (hsw : swapsWith (.ListComp elt [⟨tg, iter, ifs, 0⟩, ⟨tg1, iter1, ifs1, 0⟩] scope pos) (some (.Name y py)) spos.line X.env = pure true) (hy : X.N[i]? = some y := by rfl) (hyl : X.env.scope.names.lookup y = some .local := by rfl) (hc : X.calm = true := by rfl) (hs : ∀ x, foldedSetIterable iter X.env x = pure x := by intro _; rfl) (hs1 : ∀ env x, foldedSetIterable iter1 env x = pure x := by intro _ _; rfl) :
    PDS X b (.Assign [.Name y py] (.ListComp elt [⟨tg, iter, ifs, 0⟩, ⟨tg1, iter1, ifs1, 0⟩] scope pos) spos) (uSet i (uX (uLc2 ui ug ut ui1 ug1 ut1 ue (own.map (·.2)) vs1))) := by
  obtain ⟨wi, p1, l1⟩ := hi
  obtain ⟨g, p2, l2⟩ := blk_g hg
  obtain ⟨tt, p3, l3⟩ := blk_t ht
  obtain ⟨wi1, q1, m1⟩ := blk_i hi1
  obtain ⟨g1, q2, m2⟩ := blk_g hg1
  obtain ⟨tt1, q3, m3⟩ := blk_t ht1
  obtain ⟨te, p4, l4⟩ := blk_e he
  refine ⟨_, ps_setLc2 hc hN hy hyl hsw p1 (blkOk_by ok) hv p2 p3 q1 q2 q3 p4 hs hs1, ?_⟩
  intro L G0 H0 G H σ e DD D g ok hu
  refine lx_of (le_lc2 l1 l2 l3 m1 m2 m3 l4 hj hj1) L G0 H0 G H σ e _ _ g hu fun v r e' G' H' g' hr q => ?_
  obtain ⟨d, G2, g2, hd, q⟩ := hr.freeze g' q
  exact ok.nx _ _ _ _ (g2.setS i hd) q
end
end DL
namespace DL
open PySem L2 PyProof.Rows
section
variable {X : Cx} {b : Bg} {K : PySem.W.Frag}
/-! ### list(range(n)) -/
def uLRg (u : DE) : DE := fun e P => u e fun r => ∃ n : Int, r.look = .int n ∧ -1000000 ≤ n ∧ n ≤ 1000000 ∧ P (.ow (.lst (nums 0 n.toNat)))
theorem rgV_rep {G : Hp} (n : Int) : RepL K G (nums 0 n.toNat) (rgV 0 n) := by
  unfold nums rgV
  rw [Int.sub_zero]
  exact repL_map (f := fun i : Nat => D.int (0 + (i : Int))) (g := fun i : Nat => V.int (0 + (i : Int))) (fun _ => rfl) _
theorem d_listRg {a : Expr} {u : DE} {p p2 pos pos2 : Pos} (hm : X.mg "list" = none) (hm2 : X.mg "range" = none) (h : PD X b a u) (hc : X.calm = true := by rfl) (hg : Gl X "list" := by rfl) (hg2 : Gl X "range" := by rfl) (na : starEach [a] X.env = (false, eval a X.env) :: starEach [] X.env := by rfl)
    (nb : starEach [.Call (.Name "range" p2) [a] [] pos2] X.env = (false, eval (.Call (.Name "range" p2) [a] [] pos2) X.env) :: starEach [] X.env := by rfl) : PD X b (.Call (.Name "list" p) [.Call (.Name "range" p2) [a] [] pos2] [] pos) (uLRg u) := by
  obtain ⟨t, pe, l⟩ := h
  refine ⟨_, pe_listRg hc hg hm (prg_1 hg2 hm2 pe na) nb, ?_⟩
  intro L G0 H0 G H σ e P Q g hu k
  refine l L G0 H0 G H σ e _ _ g hu fun v r G1 H1 s1 hr q => ?_
  obtain ⟨n, hn, h1, h2, q⟩ := q
  have tp := hr.top (g.step s1)
  rw [hn] at tp
  cases tp
  refine ⟨n, rfl, ⟨by decide, by decide, by omega, by omega, by omega⟩, fun p hp => ?_⟩
  exact (g.step s1).newL (rgV_rep n) q (fun v r G2 H2 s2 hr2 p2 => k v r G2 H2 (s1.trans s2) (hr2.back fun a hb z => s1.back a hb z) p2) p hp
/-! ### f(bag, [x, y]) where x, y are made just now and one of them is answered -/
/-! ### C.m(), m a staticmethod -/
/-- C.m is a staticmethod: its record at p, its def at g -/
structure SMet (K : PySem.W.Frag) (C : Addr) (mc : Value) (m : Str) (p g : Addr) : Prop where
  at_ : PySem.W.findCls K (.ref C) mc m = some (.get (.builtin "staticmethod.__get__") (.ref p) .none (.ref C))
  rc : ∃ rest, PySem.W.recIn K p "staticmethod" = some (.ref g :: rest)
theorem getsm_ok {pins : List (Addr × Obj)} {σ : L2.St} {H : Hp} {s : Shared} {C p g : Addr} {mc : Value} {m : Str} {A : Around} {E : Value → Shared → Prop} {pl : Sem Bool} {Q : Value × List Value → Shared → Prop} (I : Inv X pins σ H s) (r : ClX.CRead X.K C mc) (k : SMet X.K C mc m p g)
    (h : ∀ s', Inv X pins σ H s' → Q (.ref g, []) s') : wpAny (model X.prog X.w) A (getMethod (.ref C) m pl) Q E s := by
  obtain ⟨rest, hp⟩ := k.rc
  refine PySem.W.method_cls I.kIn r.ga (PySem.W.cls_bind I.kIn r.rd k.at_ (wpAny_call (PySem.W.sm_get (s := { s with toks := s.toks + 1 }) I.kIn hp (PySem.W.handed_on rfl ?_))))
  exact h _ (I.tok _)
def tSm (C : Addr) (sp : Sp) (ta : TE) : TE := fun σ H Q => ta σ H fun x H1 => x = .ref C ∧ sp [] H1 Q E0
theorem pe_sm0 {C p g : Addr} {mc : Value} {m : Str} {CX : CXT} {k : Nat} {fd : FuncData} {ps : List Str} {sp : Sp} {o : Expr} {pos apos : Pos} {ta : TE} {pl : Sem Bool} (he : PE X o ta) (r : ClX.CRead X.K C mc) (c : SMet X.K C mc m p g) (F : FnOk X.prog X.w X.K X.mg X.base CX k g fd ps sp) (hk : PySem.W.keepIn X.K (.ref g) = true) (hr : Room k X.A) (hb : Binds X.K fd ps []) (hx : Passes CX X E0)
    (ht : eval (.Call (.Attribute o m apos) [] [] pos) X.env = (do
      let ov ← eval o X.env
      standAt apos.atName
      let (f, first) ← holding [ov] (getMethod ov m pl)
      callWith pos f first (backTo pos (starEach [] X.env)) (backToKw pos (keywordEach [] X.env)))) : PE X (.Call (.Attribute o m apos) [] [] pos) (tSm C sp ta) := by
  constructor
  intro pins s σ H Q I h
  refine PySem.W.methodCall_KW (pl := pl) (thn (he.run pins s σ H _ I h) fun u s1 ⟨x, H1, I1, rx, ex, q⟩ => ?_) ht
  subst ex
  obtain rfl : u = Value.ref C := rx
  refine getsm_ok I1 r c fun s2 I2 => ?_
  exact PySem.W.callWith_K0 I2.kIn hk (run_fn (us := []) (vs := []) F hr hb .nil hx I2 .nil q)
structure KnownS (P : Program) (w : World) (K : PySem.W.Frag) (mg : Str → Option Value) (base : Heap) (C : Addr) (mc : Value) (m : Str) (k : Nat) (ps : List Str) (sp : Sp) : Prop where
  ex : ∃ p g fd, FnOk P w K mg base CX0 k g fd ps sp ∧ SMet K C mc m p g ∧ PySem.W.keepIn K (.ref g) = true ∧ Binds K fd ps []
theorem d_sm0 {C : Addr} {mc : Value} {m x : Str} {k : Nat} {ps : List Str} {f : FS} {p pos apos : Pos} {pl : Sem Bool} (F : KnownS X.prog X.w X.K X.mg X.base C mc m k ps (spN X.K f)) (hr : Room k X.A) (hm : X.mg x = some (.ref C)) (r : ClX.CRead X.K C mc) (hg : Gl X x := by rfl) (hd : (x == ("__debug__" : Str)) = false := by decide)
    (ht : eval (.Call (.Attribute (.Name x p) m apos) [] [] pos) X.env = (do
      let ov ← eval (.Name x p) X.env
      standAt apos.atName
      let (f, first) ← holding [ov] (getMethod ov m pl)
      callWith pos f first (backTo pos (starEach [] X.env)) (backToKw pos (keywordEach [] X.env))) := by rfl) : PD X b (.Call (.Attribute (.Name x p) m apos) [] [] pos) (uCall f uNil) := by
  obtain ⟨rp, fa, fd, F, hs, hk, hb⟩ := F
  refine ⟨_, pe_sm0 (pe_glob (v := .ref C) hg hm rfl hd) r hs F hk hr hb pass0 ht, ?_⟩
  intro L G0 H0 G H σ e P Q g hu k
  refine ⟨rfl, G, [], P, g.ex, rfl, hu, fun v r G' H' s hr hp => ?_⟩
  have s' : Stp b [] G H G' H' := s.some
  refine k v r G' H' s' ?_ hp
  cases r with
  | sh d => exact hr
  | ow o =>
    obtain ⟨a, ho, h1, _, h3, h4⟩ := hr
    exact ⟨a, ho, h1, g.nb h3, h3, h4⟩
  | al i o => obtain ⟨⟨_, h⟩, _⟩ := hr; simp at h
  | tr t => exact NewT.imp hr fun a hb h3 => ⟨g.nb h3, h3⟩
end
end DL
namespace DL
open PySem L2 PyProof.Rows
/-! ### defs that raise -/
/-- what a def asks of its data, what it answers, what it lets out -/
abbrev FSX := List D → (R → Prop) → (XD → Prop) → Prop
def spX (K : PySem.W.Frag) (f : FSX) : Sp := fun vs H Q E => ∃ G ds P XP, Ex G H ∧ RepL K G ds vs ∧ f ds P XP ∧ (∀ v r G' H', Stp none [] G H G' H' → RepR K none H [] [] G' H' r v → P r → Q v H') ∧ ∀ x cls d G' H', Stp none [] G H G' H' → XRep K G' H' x cls d → XP x → E cls d H'
structure KnownX (P : Program) (w : World) (K : PySem.W.Frag) (mg : Str → Option Value) (base : Heap) (x : Str) (k : Nat) (ps : List Str) (sp : Sp) : Prop where
  ex : ∃ f fd, FnOk P w K mg base (L2.CX P w) k f fd ps sp ∧ mg x = some (.ref f) ∧ PySem.W.keepIn K (.ref f) = true ∧ Binds K fd ps []
section
variable {X : Cx} {b : Bg} {K : PySem.W.Frag}
/-- the link from the ground to what gets out -/
theorem Good.out {L : Lk} {G0 H0 G H G' H' : Hp} {σ : L2.St} {e : List Sl} {x : XD} {cls : Value} {d : Option Addr} (g : Good K b L G0 H0 G H σ e) (s : Stp none [] G H G' H') (hx : XRep K G' H' x cls d) (h : b.xp x) (σ' : L2.St) (hi : b.inv H0 G' H') : b.W cls d σ' H' := by
  cases L with
  | nil => exact g.xl.2 rfl x cls d σ' G' H' (g.stp.trans s.some) hx h ⟨H0, fun _ z => z, hi⟩
  | cons l L => exact (g.xl.1 (by simp) x h).elim
def uCallX (f : FSX) (xp : XD → Prop) (ua : DA) : DE := fun e P => ua e fun ds => f ds P xp
theorem ret_n {L : Lk} {G0 H0 G H G1 H1 G' H' : Hp} {σ : L2.St} {e : List Sl} {r : R} {v : V} (g1 : Good K b L G0 H0 G1 H1 σ e) (s1 : Stp b [] G H G1 H1) (hr : RepR K none H1 [] [] G' H' r v) : RepR K b H σ e G' H' r v := by
  cases r with
  | sh d => exact hr
  | ow o =>
    obtain ⟨a, ho, h1, _, h3, h4⟩ := hr
    have hb : b.a ≠ some a := g1.nb h3
    exact ⟨a, ho, h1, hb, s1.back a hb h3, h4⟩
  | al i o => obtain ⟨⟨_, h⟩, _⟩ := hr; simp at h
  | tr t => exact NewT.imp hr fun a hb h3 => ⟨g1.nb h3, s1.back a (g1.nb h3) h3⟩
theorem d_callX {x : Str} {k : Nat} {ps : List Str} {f : FSX} {a : Expr} {es : List Expr} {ua : DA} {p pos : Pos} (tk : L2.Takes X b.W) (F : KnownX X.prog X.w X.K X.mg X.base x k ps (spX X.K f)) (hr : Room k X.A) (ha : PDA X b (a :: es) ua) (hg : Gl X x := by rfl)
    (hdb : (x == ("__debug__" : Str)) = false := by decide) (he : starEach (a :: es) X.env = (false, eval a X.env) :: starEach es X.env := by rfl) (hpl : (backTo pos (starEach es X.env)).any (·.1) = false := by rfl) (hi : ∀ F G H, b.inv F G H := by intro _ _ _; exact True.intro) : PD X b (.Call (.Name x p) (a :: es) [] pos) (uCallX f b.xp ua) := by
  obtain ⟨fa, fd, F, hm, hk, hb⟩ := F
  obtain ⟨t, pa, l⟩ := ha
  refine ⟨_, pe_call (E := fun cls d H => ∀ σ, b.W cls d σ H) F hr hg hm hk hb .nil (passes_call tk fun _ _ σ _ h => h σ) pa hdb he hpl, ?_⟩
  intro L G0 H0 G H σ e P Q g hu kk
  refine l L G0 H0 G H σ e _ _ g hu fun vs ds G1 H1 s1 hds q => ?_
  have g1 := g.step s1
  show spX X.K f (vs ++ []) H1 Q _
  rw [List.append_nil]
  exact ⟨G1, ds, P, b.xp, g1.ex, hds, q, fun v r G' H' s hr hp => kk v r G' H' (s1.trans s.some) (ret_n g1 s1 hr) hp, fun y cls d G' H' s hy h σ' => g1.out s hy h σ' (hi _ _ _)⟩
end
section
variable {P : Program} {w : World} {K : PySem.W.Frag} {mg : Str → Option Value} {base : Heap}
abbrev bE (a : Option Addr) (E : XK) (xp : XD → Prop) : Bg := ⟨a, fun cls d _ H => E cls d H, xp, fun _ _ _ => True⟩
theorem fnOk_X {x qual : Str} {st : Stmt} {f : Addr} {fd : FuncData} {N ps : List Str} {k : Nat} {fs : FSX} {u : (XD → Prop) → DS} (F : Fun K x qual st f fd) (S : FnScope N ps (defScope st)) (len : ∀ ds P XP, fs ds P XP → ds.length = ps.length)
    (hb : ∀ (xp : XD → Prop) (cdv : Value) (A : Around) (outer : List Env) (s : Shared) (H : Hp) (E : XK), Room k (A.deeper (envOfC qual (defScope st) s.heap.objs.size f cdv)) → L2.Takes (cxOf (L2.CX P w) P w K mg base N qual (defScope st) f cdv A outer s H E) (bE none E xp).W → PassesOwn (model P w) (cxOf (L2.CX P w) P w K mg base N qual (defScope st) f cdv A outer s H E).A (cxOf (L2.CX P w) P w K mg base N qual (defScope st) f cdv A outer s H E).env (cxOf (L2.CX P w) P w K mg base N qual (defScope st) f cdv A outer s H E).xe → PDSs (cxOf (L2.CX P w) P w K mg base N qual (defScope st) f cdv A outer s H E) (bE none E xp) (defBody st) (u xp))
    (hu : ∀ ds P XP, fs ds P XP → u XP ⟨fun _ => P (.sh .non), fun r _ => P r, fun _ => False, fun _ => False⟩ (env0 N ds)) : FnOk P w K mg base (L2.CX P w) (k + 1) f fd ps (spX K fs) := by
  refine F.okX S (fun vs H Q E h => ?_) (fun cdv A outer s H vs Q E hr h => ?_)
  · obtain ⟨G, ds, P, XP, _, hr, hf, _⟩ := h
    rw [hr.length]; exact len ds P XP hf
  · obtain ⟨G, ds, P', XP, ex, hds, hf, kk, kx⟩ := h
    obtain ⟨t, p, l⟩ := hb XP cdv A outer s H E hr (takes_of rfl rfl rfl rfl) (passes_of rfl)
    have g0 := good0 (N := N) ex hds
    refine ⟨t, p, l [] G H G H _ _ ⟨fun _ => P' (.sh .non), fun r _ => P' r, fun _ => False, fun _ => False⟩ _ ⟨g0.toGood0, fun h => (h rfl).elim, fun _ x cls d σ G' H' st hx h _ => kx x cls d G' H' st hx h⟩ ⟨fun G' H' σ e g h => ?_, fun G' H' σ e v r g hr h => ?_, fun G' H' σ e g h => h.elim, fun G' H' σ e g h => h.elim⟩ (hu ds P' XP hf)⟩
    · exact kk .non (.sh .non) G' H' g.stp rfl h
    · exact kk v r G' H' g.stp hr h
end
end DL
namespace DL
open PySem L2 PyProof.Rows
/-! ### raise C(..), C a class of ours with an own __init__ -/
/-- C's __init__: its arguments, the fields that it leaves -/
def spE (K : PySem.W.Frag) (C : Addr) (fE : List D → Option (List (Str × D))) : Sp := fun vs H Q _ => ∃ (a : Addr) (G : Hp) (vs' : List V) (ds : List D) (out : List (Str × D)), vs = .ref a :: vs' ∧ H a = some (exo a C none) ∧ RepL K G ds vs' ∧ fE ds = some out ∧
  ∀ (d : Addr) (fs : List (Str × V)) (H' : Hp), H d = none → H' a = some (exo a C (some d)) → H' d = some (exd d fs) → (∀ c, c ≠ a → c ≠ d → H' c = H c) → (∀ f y, out.lookup f = some y → ∃ v, fs.lookup f = some v ∧ Rep K G y v) → Q .non H'
structure KnownE (P : Program) (w : World) (K : PySem.W.Frag) (mg : Str → Option Value) (base : Heap) (x : Str) (C : Addr) (k : Nat) (ps : List Str) (fE : List D → Option (List (Str × D))) : Prop where
  ex : ∃ fI fd, FnOk P w K mg base CX0 k fI fd ps (spE K C fE) ∧ OexC K C ∧ PySem.W.findIn K (.ref C) "__init__" = some (some (.ref fI)) ∧ PySem.W.typeIn K (.ref fI) = some (.type "function") ∧ Binds K fd ps [] ∧ mg x = some (.ref C)
section
variable {X : Cx} {b : Bg} {K : PySem.W.Frag}
def uRaise (xp : XD → Prop) (C : Addr) (fE : List D → Option (List (Str × D))) (ua : DA) : DS := fun _ e => ua e fun ds => ds.length ≤ 1000 ∧ ∃ out, fE ds = some out ∧ xp (C, out)
/-- what must hold at the way out is told by the slots -/
def Outs (K : PySem.W.Frag) (b : Bg) (ge : List Sl → Prop) : Prop := ∀ (L : Lk) (G0 H0 G H G' H' : Hp) (σ : L2.St) (e : List Sl), Good K b L G0 H0 G H σ e → ge e → Stp none [] G H G' H' → b.inv H0 G' H'
theorem outs_of (hi : ∀ F G H, b.inv F G H) : Outs K b (fun _ => True) := fun _ _ _ _ _ _ _ _ _ _ _ _ => hi _ _ _
theorem raise_coreG {C : Addr} {fE : List D → Option (List (Str × D))} {ta : TA} {ua : DA} {ge : List Sl → Prop} (hv : Outs K b ge) (l : LA K b ta ua) : LS K b (fun _ σ H => tMkO C (spE K C fE) [] ta σ H fun cls d H' => b.W cls d σ H') (fun DD e => ge e ∧ uRaise b.xp C fE ua DD e) := by
  intro L G0 H0 G H σ e DD D g ok ⟨hge, hu⟩
  refine l L G0 H0 G H σ e _ _ g hu fun vs ds G1 H1 s1 hds q => ?_
  obtain ⟨hl, out, hf, hx⟩ := q
  have g1 := g.step s1
  refine ⟨by rw [hds.length]; exact hl, fun a ha => ?_⟩
  rw [List.append_nil]
  have ga : G1 a = none := g1.ex.none ha
  refine ⟨a, G1, vs, ds, out, rfl, upd_same, hds, hf, fun d fs H' hd h1 h2 hc hfs => ⟨rfl, d, fs, h1, h2, ?_, ?_⟩⟩
  · by_cases z : d = a
    · subst z; rw [upd_same] at hd; cases hd
    · rwa [upd_ne z] at hd
  · have nda : d ≠ a := fun z => by subst z; rw [upd_same] at hd; cases hd
    have hd1 : H1 d = none := by rwa [upd_ne nda] at hd
    have hH : ∀ c, c ≠ d → (L2.upd (L2.del H' a) d (.xd fs)) c = H1 c := fun c ncd => by
      rw [upd_ne ncd]
      by_cases z : c = a
      · subst z; rw [L2.del_same, ha]
      · rw [L2.del_ne z, hc c z ncd, upd_ne z]
    have eH : L2.upd (L2.del H' a) d (.xd fs) = L2.upd H1 d (.xd fs) := by
      funext c
      by_cases z : c = d
      · subst z; rw [upd_same, upd_same]
      · rw [hH c z, upd_ne z]
    have st : Stp none [] G1 H1 (L2.upd G1 d (.xd fs)) (L2.upd (L2.del H' a) d (.xd fs)) := by rw [eH]; exact Stp.laid g1.ex hd1
    exact g1.out (x := (C, out)) st ⟨rfl, d, fs, rfl, upd_same, upd_same, fun f y h => by obtain ⟨v, q1, q2⟩ := hfs f y h; exact ⟨v, q1, q2.mono st.g⟩⟩ hx σ (hv _ _ _ _ _ _ _ _ _ g1 hge st)
theorem raise_core {C : Addr} {fE : List D → Option (List (Str × D))} {ta : TA} {ua : DA} (hi : ∀ F G H, b.inv F G H) (l : LA K b ta ua) : LS K b (fun _ σ H => tMkO C (spE K C fE) [] ta σ H fun cls d H' => b.W cls d σ H') (uRaise b.xp C fE ua) :=
  fun L G0 H0 G H σ e DD D g ok hu => raise_coreG (outs_of hi) l L G0 H0 G H σ e DD D g ok ⟨trivial, hu⟩
theorem ds_raise {x : Str} {C : Addr} {k : Nat} {ps : List Str} {fE : List D → Option (List (Str × D))} {a : Expr} {es : List Expr} {ua : DA} {p cpos pos : Pos} (tk : L2.Takes X b.W) (F : KnownE X.prog X.w X.K X.mg X.base x C k ps fE) (hr : Room (k + 1) X.A) (ha : PDA X b (a :: es) ua) (hg : Gl X x := by rfl) (hc : X.calm = true := by rfl)
    (hdb : (x == ("__debug__" : Str)) = false := by decide) (he : starEach (a :: es) X.env = (false, eval a X.env) :: starEach es X.env := by rfl) (hpl : (backTo cpos (starEach es X.env)).any (·.1) = false := by rfl) (hi : ∀ F G H, b.inv F G H := by intro _ _ _; exact True.intro) : PDS X b (.Raise (some (.Call (.Name x p) (a :: es) [] cpos)) none pos) (uRaise b.xp C fE ua) := by
  obtain ⟨fI, fd, F1, T, iC, tI, hb, hm⟩ := F
  obtain ⟨t, pa, l⟩ := ha
  exact ⟨_, L2.ps_raise hc tk (pmk_oex T iC tI F1 hr hb .nil pass0 hg hm pa hdb he hpl), raise_core hi l⟩
end
section
variable {P : Program} {w : World} {K : PySem.W.Frag} {mg : Str → Option Value} {base : Heap}
/-- def __init__(self, y): self.f = y; self.g = 'code' -/
def fE2 (f g c : Str) : List D → Option (List (Str × D)) := fun ds => match ds with
  | [x] => some [(g, .str c), (f, x)]
  | _ => none
theorem fnE2 {qual y ff gg cc : Str} {st : Stmt} {f C : Addr} {fd : FuncData} {k : Nat} {p1 p2 p3 p4 p5 p6 q1 q2 : Pos} {j : Nat} (F : Fun K "__init__" qual st f fd) (S : FnScope ["self", y] ["self", y] (defScope st)) (T : OexC K C) (n1 : PySem.W.findIn K (.ref C) ff = some none) (n2 : PySem.W.findIn K (.ref C) gg = some none) (nfg : (ff == gg) = false)
    (hst : defBody st = [.Assign [.Attribute (.Name "self" p1) ff p2] (.Name y p3) q1, .Assign [.Attribute (.Name "self" p4) gg p5] (.Constant (.str cc) j p6) q2])
    (v0 : Vis (defScope st) "self") (v1 : Vis (defScope st) y) (d0 : (y == ("__debug__" : Str)) = false) (d1 : (y == ("__classdict__" : Str)) = false)
    (hs1 : ∀ (cdv : Value) (A : Around) (outer : List Env) (s : Shared) (H : Hp) (E : XK), swapsWith (.Name y p3) (some (.Attribute (.Name "self" p1) ff p2)) q1.line (cxOf CX0 P w K mg base ["self", y] qual (defScope st) f cdv A outer s H E).nox.env = pure false)
    (hs2 : ∀ (cdv : Value) (A : Around) (outer : List Env) (s : Shared) (H : Hp) (E : XK), swapsWith (.Constant (.str cc) j p6) (some (.Attribute (.Name "self" p4) gg p5)) q2.line (cxOf CX0 P w K mg base ["self", y] qual (defScope st) f cdv A outer s H E).nox.env = pure false) :
    FnOk P w K mg base CX0 (k + 1) f fd ["self", y] (spE K C (fE2 ff gg cc)) := by
  refine F.ok S (fun vs H Q E h => ?_) (fun cdv A outer s H vs Q E hr h => ?_)
  · obtain ⟨a, G, vs', ds, out, rfl, _, hds, hf, _⟩ := h
    match ds, hf with
    | [x], _ => rw [List.length_cons, hds.length]; rfl
  · obtain ⟨a, G, vs', ds, out, rfl, ha, hds, hf, kk⟩ := h
    match ds, hf with
    | [x], hf =>
      cases hf
      obtain ⟨v, r, rfl, hv, hr'⟩ := hds
      cases hr'
      rw [hst]
      refine ⟨_, pss_cons (ps_ost (pv 0 rfl v0) (pv 1 rfl v1 d0 d1) (hs1 cdv A outer s H E)) (pss_one (ps_ost (pv 0 rfl v0) pe_str (hs2 cdv A outer s H E))), ?_⟩
      refine ⟨v, rfl, .ref a, rfl, a, C, rfl, T, n1, .inl ⟨ha, fun dx hn ne => ?_⟩⟩
      refine ⟨.ref a, rfl, a, C, rfl, T, n2, .inr ⟨dx, _, upd_same, by rw [upd_ne ne]; exact upd_same, by show 1 ≤ 900; decide, ?_⟩⟩
      refine kk dx [(gg, .str cc), (ff, v)] _ hn (by rw [upd_ne (Ne.symm ne)]; exact upd_same) upd_same (fun c h1 h2 => by rw [upd_ne h2, upd_ne h1, upd_ne h2]) fun f z hl => ?_
      by_cases e : (f == gg) = true
      · have e' : f = gg := by simpa using e
        subst e'
        simp at hl
        subst hl
        exact ⟨.str cc, by simp, rfl⟩
      · have e1 : (f == gg) = false := by simpa using e
        simp only [List.lookup, e1] at hl ⊢
        by_cases e2 : (f == ff) = true
        · rw [e2] at hl ⊢
          cases hl
          exact ⟨v, rfl, hv⟩
        · have e3 : (f == ff) = false := by simpa using e2
          rw [e3] at hl; cases hl
end
end DL
namespace DL
open PySem L2 PyProof.Rows
/-! ### zip of two texts -/
section
variable {X : Cx} {b : Bg} {K : PySem.W.Frag}
end
end DL
/-! ### set comprehensions, over any way to tell what a set holds -/
namespace SM
open PySem PySem.Spec PyProof.Rows L2
structure Acc (P : Program) (w : World) (K : PySem.W.Frag) where
  T : Type
  o : Addr → T → HO
  t0 : T
  fit : Around → Prop
  may : T → V → Hp → T → Prop
  fresh : ∀ (H : Hp) (h : Heap), ObjOk P w H (h.push (e0 w)) h.objs.size (o h.objs.size t0)
  add : ∀ {X : Cx} {pins : List (Addr × Obj)} {σ : L2.St} {H : Hp} {s : Shared} {E : Value → Shared → Prop} {D : Addr} {t t' : T} {y : V} {u : Value} {Q : Value → Shared → Prop}, X.prog = P → X.w = w → X.K = K → fit X.A →
    Inv X pins σ H s → H D = some (o D t) → may t y H t' → RelV y u → (∀ s', Inv X pins σ (upd H D (o D t')) s' → Q .none s') → wpAny (model X.prog X.w) X.A (call (.builtin "set.add") [.ref D, u]) Q E s
section
variable {X : Cx}
end
end SM
namespace DL
open PySem L2 PyProof.Rows
/-! ### dicts of the module: text keys, keys that are tuples of numbers -/
structure KdS (K : PySem.W.Frag) (w : World) (mg : Str → Option Value) (x : Str) (kvs : List (Str × D)) : Prop where
  ex : ∃ d, mg x = some (.ref d) ∧ ∀ z v, (z, v) ∈ kvs → ∃ v0, KDct K w d z v0 ∧ ∀ G, Rep K G v v0
abbrev KeyW (P : Program) (w : World) := tupleKind (mixKind P w)
structure KdT (P : Program) (K : PySem.W.Frag) (w : World) (mg : Str → Option Value) (x : Str) (kvs : List (List Int × D)) : Prop where
  ex : ∃ (d : Addr) (od : Option Addr) (es : Array DictEntry) (n : Nat) (ks : List (List Key × Addr × Value)), mg x = some (.ref d) ∧ K.lookup d = some ⟨.type "dict", none, .dict es n, #[]⟩ ∧ es.toList = ks.map (entryOfKey (KeyW P w)) ∧ (ks.map (·.1)).Nodup ∧
    (∀ p ∈ ks, ∃ o its n, K.lookup p.2.1 = some o ∧ o.cls = .type "tuple" ∧ o.data = .seq its n ∧ Vals (p.1.map kV) its.toList) ∧
    ∀ k v, (k, v) ∈ kvs → ∃ p v0, atKey ks (k.map Sum.inl) = some p ∧ RelV v0 p.2 ∧ ∀ G, Rep K G v v0
section
variable {X : Cx} {b : Bg} {K : PySem.W.Frag}
def uKdS (kvs : List (Str × D)) (u : DE) : DE := fun e P => u e fun r => ∃ z v, r.look = .str z ∧ (z, v) ∈ kvs ∧ P (.sh v)
def uKdT (kvs : List (List Int × D)) (u : DE) : DE := fun e P => u e (R.keep fun d => ∃ k v, d = .tup (k.map D.int) ∧ (k, v) ∈ kvs ∧ P (.sh v))
end
/-- a written tuple of numbers -/
theorem rep_tupK {K : PySem.W.Frag} {a : Addr} {ks : List Int} {od : Option Addr} {its : Array Value} {n : Nat} {sl : Array (Option Value)} (l : K.lookup a = some ⟨.type "tuple", od, .seq its n, sl⟩) (h : its.size ≤ sizeLine) (r : Vals (ks.map V.int) its.toList) (G : Hp) : Rep K G (.tup (ks.map D.int)) (.ref a) := by
  refine ⟨a, ks.map V.int, rfl, .inr ⟨_, its, n, l, rfl, rfl, h, r⟩, ?_⟩
  clear r h l
  induction ks with
  | nil => rfl
  | cons i ks ih => exact ⟨_, _, rfl, rfl, ih⟩
end DL
/-! ### set comprehensions of numbers and texts; len of one -/
namespace SM
open PySem PySem.Spec PyProof.Rows L2
end SM
namespace DL
open PySem L2 PyProof.Rows
section
variable {X : Cx} {b : Bg} {K : PySem.W.Frag}
end
end DL
namespace DL
open PySem L2 PyProof.Rows
/-! ### how often a sign stands in a text -/
section
variable {X : Cx} {b : Bg} {K : PySem.W.Frag}
/-! ### a sign so many times -/
end
end DL
namespace DL
open PySem L2 PyProof.Rows
/-! ### dict displays -/
section
variable {X : Cx} {b : Bg} {K : PySem.W.Frag}
/-! more than 15 pairs, all of them written -/
structure PLc (X : Cx) (pos : Pos) (keys : List (Option Expr)) (values : List Expr) (kvs : List (Key × V)) : Prop where
  run : ∀ (p : Addr) (acc : List (Key × V)) (pins : List (Addr × Obj)) (s : Shared) (σ : L2.St) (H : Hp) (R : Unit → Shared → Prop), Inv X pins σ H s → H p = some (.dK acc) → acc.length + kvs.length ≤ 1000 →
    (∀ s', Inv X pins σ (upd H p (.dK (mergeK acc kvs))) s' → R () s') → wpAny (model X.prog X.w) X.A (forIn (pairTrees keys values X.env pos) PUnit.unit fun x __s =>
      match x with
      | (k, v) => do
        let kv ← k
        let vv ← holding [kv] v
        holding [kv, vv] (dictSet p kv vv)
        pure (ForInStep.yield PUnit.unit)) R X.xe s
end
end DL
namespace DL
open PySem L2 PyProof.Rows
/-! ### classmethods; a class that stands in a variable -/
section
variable {X : Cx} {b : Bg} {K : PySem.W.Frag}
def tMakeV (C : Addr) (sp : Sp) (tf : TE) (t : TA) : TE := fun σ H Q => tf σ H fun v H1 => v = .ref C ∧ tMake C sp [] E0 t σ H1 Q
theorem pe_makeV {CX : CXT} {k : Nat} {f C : Addr} {fd : FuncData} {ps : List Str} {sp : Sp} {x : Str} {p pos : Pos} {e : Expr} {es : List Expr} {t : TA} {tf : TE} (hf : PE X (.Name x p) tf) (M : Mk X.K C f) (F : FnOk X.prog X.w X.K X.mg X.base CX k f fd ps sp) (hr : Room (k + 1) X.A) (hb : Binds X.K fd ps []) (hx : Passes CX X E0)
    (ha : PA X (e :: es) t) (he : starEach (e :: es) X.env = (false, eval e X.env) :: starEach es X.env := by rfl) (hpl : (backTo pos (starEach es X.env)).any (·.1) = false := by rfl) : PE X (.Call (.Name x p) (e :: es) [] pos) (tMakeV C sp tf t) := by
  constructor
  intro pins s σ H Q I h
  refine wpAny_Call_Name_kw (thn (hf.run pins s σ H _ I h) fun f s0 ⟨v, H0, I0, r0, ev, q0⟩ => ?_)
  subst ev
  obtain rfl : f = Value.ref C := r0
  refine PySem.W.callWith_K (h₀ := X.base) I0.ok.mod.kin M.kp (thn (ha.run pos pins s0 σ H0 _ I0 q0) fun us s1 ⟨vs, H1, I1, r, q⟩ => ⟨I1.kIn, ?_⟩) he hpl
  exact run_make M F hr hb .nil hx I1 r q
/-- x(..), x a variable that holds the class -/
def uMakeV (C : Addr) (f : FI) (u : DE) (ua : DA) : DE := fun e P => u e fun r => r = .sh (.fn C) ∧ uMake C f ua e P
theorem d_makeV {x y : Str} {C : Addr} {k : Nat} {ps : List Str} {f : FI} {a : Expr} {es : List Expr} {u : DE} {ua : DA} {p pos : Pos} (F : KnownI X.prog X.w X.K X.mg X.base x C k ps (spI X.K C f)) (hr : Room (k + 1) X.A) (h : PD X b (.Name y p) u) (ha : PDA X b (a :: es) ua)
    (he : starEach (a :: es) X.env = (false, eval a X.env) :: starEach es X.env := by rfl) (hpl : (backTo pos (starEach es X.env)).any (·.1) = false := by rfl) : PD X b (.Call (.Name y p) (a :: es) [] pos) (uMakeV C f u ua) := by
  obtain ⟨g, fd, F, M, hm, bi⟩ := F
  obtain ⟨t, pa, l⟩ := ha
  obtain ⟨tf, pf, lf⟩ := h
  refine ⟨_, pe_makeV pf M F hr bi pass0 pa he hpl, ?_⟩
  intro L G0 H0 G H σ e P Q gd hu k
  refine lf L G0 H0 G H σ e _ _ gd hu fun v r G1 H1 s1 hr1 q => ?_
  obtain ⟨rfl, q⟩ := q
  refine ⟨hr1, ?_⟩
  refine le_make l L G0 H0 G1 H1 σ e _ _ (gd.step s1) q fun v2 r2 G2 H2 s2 hr2 hp => ?_
  exact k v2 r2 G2 H2 (s1.trans s2) (hr2.back fun a hb z => s1.back a hb z) hp
/-- x.f, x such a variable, f a constant of the class -/
def uFldC (C : Addr) (d : D) (u : DE) : DE := fun e P => u e fun r => r = .sh (.fn C) ∧ P (.sh d)
/-- C.m(..), m a classmethod; the keyword-only parameters lack -/
structure KnownC (P : Program) (w : World) (K : PySem.W.Frag) (mg : Str → Option Value) (base : Heap) (C : Addr) (mc : Value) (m : Str) (k : Nat) (ps : List Str) (dds : List D) (sp : Sp) : Prop where
  ex : ∃ p g fd ds dvs, FnOk P w K mg base CX0 k g fd ps sp ∧ ClX.CMet K C mc m p g ∧ Binds K fd ps ds ∧ Vals dvs ds ∧ ∀ G, RepL K G dds dvs
def uCMeth (C : Addr) (f : FS) (dds : List D) (ua : DA) : DE := fun e P => ua e fun ds => f (.fn C :: (ds ++ dds)) P
structure HereC (K : PySem.W.Frag) (C : Addr) (mc : Value) (m qual : Str) (st : Stmt) (ps : List Str) (dds : List D) : Prop where
  ex : ∃ p g fd kws ds, FunD K m qual (defArgs st) (defBody st) (defScope st) [] kws g fd ∧ ClX.CMet K C mc m p g ∧ Vals (kws.map (·.2)) ds ∧ Binds K fd ps ds ∧ ∀ G, RepL K G dds (kws.map (·.2))
end
section
variable {P : Program} {w : World} {K : PySem.W.Frag} {mg : Str → Option Value} {base : Heap}
end
end DL
namespace DL
open PySem L2 PyProof.Rows
/-! ### plain forms of the readings: dict comprehensions, two walks, sorted dicts -/
theorem putD_new {kvs : List (Key × D)} {k : Key} {d : D} (h : k ∉ kvs.map (·.1)) : putD kvs k d = kvs ++ [(k, d)] := by
  unfold putD
  rw [if_neg]
  intro z
  rw [List.any_eq_true] at z
  obtain ⟨x, hx, e⟩ := z
  exact h (List.mem_map.mpr ⟨x, hx, of_decide_eq_true e⟩)
theorem dc_map {α : Type} {ui : DI} {ug : DG} {ut : DT} {uk ue : DE} {vs : List Nat} {e : List Sl} {P : R → Prop} (ys : List α) (inj : α → D) (p : α → Bool) (kf : α → Key) (vf : α → D) (hi : ∀ Q : List D → Prop, Q (ys.map inj) → ui e Q) (hl : ys.length ≤ 1000000) (hn : ((ys.filter p).map kf).Nodup)
    (hb : ∀ y ∈ ys, ∀ (S : Key → D → Prop) (T : Prop), (p y = true → S (kf y) (vf y)) → (p y = false → T) → ug (inj y) (wipeE e vs) fun e2 => ut e2 fun c => if c = true then uk e2 (fun rk => ∃ k, keyD rk.look = some k ∧ ue e2 (R.keep fun d => S k d)) else T)
    (k : P (.ow (.dk ((ys.filter p).map fun y => (kf y, vf y))))) : uDc ui ug ut uk ue vs e P := by
  refine hi _ ⟨fun i acc => acc = ((ys.take i).filter p).map fun y => (kf y, vf y), rfl, ?_, ?_⟩
  · rintro i x acc hx rfl
    rw [List.getElem?_map] at hx
    cases q : ys[i]? with
    | none => rw [q] at hx; cases hx
    | some y =>
      rw [q] at hx
      cases hx
      have hlt := (List.getElem?_eq_some_iff.mp q).1
      have ht : ys.take (i + 1) = ys.take i ++ [y] := by rw [List.take_add_one, q]; rfl
      refine hb y (List.mem_of_getElem? q) (fun k d => (((ys.take i).filter p).map fun y => (kf y, vf y)).length < 1000000 ∧ putD (((ys.take i).filter p).map fun y => (kf y, vf y)) k d = ((ys.take (i + 1)).filter p).map fun y => (kf y, vf y)) _ (fun hp => ⟨?_, ?_⟩) (fun hp => ?_)
      · rw [List.length_map]
        have := List.length_filter_le p (ys.take i)
        rw [List.length_take] at this
        omega
      · rw [ht, List.filter_append, List.map_append, List.filter_cons, if_pos hp]
        refine putD_new ?_
        rw [List.map_map]
        intro hm
        obtain ⟨h1, h2⟩ := List.getElem?_eq_some_iff.mp q
        have hs0 : ys = ys.take i ++ y :: ys.drop (i + 1) := by
          rw [← h2, List.getElem_cons_drop, List.take_append_drop]
        have hs := congrArg (List.filter p) hs0
        rw [List.filter_append, List.filter_cons_of_pos hp, show (ys.take i).filter p ++ y :: (ys.drop (i + 1)).filter p = ((ys.take i).filter p ++ [y]) ++ (ys.drop (i + 1)).filter p by simp] at hs
        rw [hs, List.map_append, List.map_append] at hn
        have n1 := (List.nodup_append.mp hn).1
        have n2 := (List.nodup_append.mp n1).2.2
        exact n2 _ hm _ (by simp) rfl
      · show _ = _
        rw [ht, List.filter_append, List.filter_cons_of_neg (by simp [hp])]
        simp
  · rintro acc rfl
    rw [List.length_map, List.take_length]
    exact k
/-- the inner walk -/
def inn (ui1 : DI) (ug1 : DG) (ut1 : DT) (ue : DE) (vs1 : List Nat) (e2 : List Sl) (acc : List D) (T : List D → Prop) : Prop := ui1 e2 fun ys => ∃ W1 : Nat → List D → Prop, W1 0 acc ∧
  (∀ (j : Nat) y acc1, ys[j]? = some y → W1 j acc1 → ug1 y (wipeE e2 vs1) fun e3 => ut1 e3 fun c1 => if c1 = true then ue e3 (R.keep fun d => acc1.length < 1000000 ∧ W1 (j + 1) (acc1 ++ [d])) else W1 (j + 1) acc1) ∧ ∀ acc1, W1 ys.length acc1 → T acc1
theorem inn_pure {β : Type} {ui1 : DI} {ug1 : DG} {ut1 : DT} {ue : DE} {vs1 : List Nat} {e2 : List Sl} {acc : List D} {T : List D → Prop} (zs : List β) (inj : β → D) (p : β → Bool) (g : β → D) (hi : ∀ Q : List D → Prop, Q (zs.map inj) → ui1 e2 Q) (hl : acc.length + zs.length < 1000000)
    (hb : ∀ z ∈ zs, ∀ (S : D → Prop) (U : Prop), (p z = true → S (g z)) → (p z = false → U) → ug1 (inj z) (wipeE e2 vs1) fun e3 => ut1 e3 fun c => if c = true then ue e3 (R.keep S) else U) (k : T (acc ++ (zs.filter p).map g)) : inn ui1 ug1 ut1 ue vs1 e2 acc T := by
  refine hi _ ⟨fun j acc1 => acc1 = acc ++ ((zs.take j).filter p).map g, by simp, ?_, ?_⟩
  · rintro j x acc1 hx rfl
    rw [List.getElem?_map] at hx
    cases q : zs[j]? with
    | none => rw [q] at hx; cases hx
    | some z =>
      rw [q] at hx
      cases hx
      have hlt := (List.getElem?_eq_some_iff.mp q).1
      have ht : zs.take (j + 1) = zs.take j ++ [z] := by rw [List.take_add_one, q]; rfl
      refine hb z (List.mem_of_getElem? q) _ _ (fun hp => ⟨?_, ?_⟩) (fun hp => ?_)
      · rw [List.length_append, List.length_map]
        have := List.length_filter_le p (zs.take j)
        rw [List.length_take] at this
        omega
      · show _ = _
        rw [ht, List.filter_append, List.map_append, List.filter_cons_of_pos hp, List.append_assoc]; rfl
      · show _ = _
        rw [ht, List.filter_append, List.filter_cons_of_neg (by simp [hp])]; simp
  · rintro acc1 rfl
    rw [List.length_map, List.take_length]
    exact k
theorem lc2_pre {α : Type} {ui : DI} {ug : DG} {ut : DT} {ui1 : DI} {ug1 : DG} {ut1 : DT} {ue : DE} {vs vs1 : List Nat} {e : List Sl} {P : R → Prop} (ys : List α) (inj : α → D) (f : α → List D) (hi : ∀ Q : List D → Prop, Q (ys.map inj) → ui e Q)
    (hb : ∀ (pre : List α) (y : α) (post : List α), ys = pre ++ y :: post → ∀ (T : List D → Prop), T (pre.flatMap f ++ f y) → ug (inj y) (wipeE e vs) fun e2 => ut e2 fun c => if c = true then inn ui1 ug1 ut1 ue vs1 e2 (pre.flatMap f) T else T (pre.flatMap f))
    (k : P (.ow (.lst (ys.flatMap f)))) : uLc2 ui ug ut ui1 ug1 ut1 ue vs vs1 e P := by
  refine hi _ ⟨fun i acc => acc = (ys.take i).flatMap f, rfl, ?_, ?_⟩
  · rintro i x acc hx rfl
    rw [List.getElem?_map] at hx
    cases q : ys[i]? with
    | none => rw [q] at hx; cases hx
    | some y =>
      rw [q] at hx
      cases hx
      have ht : ys.take (i + 1) = ys.take i ++ [y] := by rw [List.take_add_one, q]; rfl
      obtain ⟨h1, h2⟩ := List.getElem?_eq_some_iff.mp q
      have hs : ys = ys.take i ++ y :: ys.drop (i + 1) := by
        rw [← h2, List.getElem_cons_drop, List.take_append_drop]
      refine hb (ys.take i) y (ys.drop (i + 1)) hs (fun acc1 => acc1 = (ys.take (i + 1)).flatMap f) ?_
      rw [ht, List.flatMap_append]
      simp
  · rintro acc rfl
    rw [List.length_map, List.take_length]
    exact k
theorem fSorted_mk {α : Type} {f : α → D} {m : List (Int × α)} {P : R → Prop} (h : m.length < 64) (p : P (.ow (.lst ((srtI (m.map (·.1))).map .int)))) : fSorted (.dk (dkv Sum.inl f m)) P := by
  refine .inl ⟨m.map (·.1), keys_dkv m, by rw [List.length_map]; exact h, fun ys h1 h2 => ?_⟩
  rw [srtI_eq h1 h2]
  exact p
theorem fSorted_ek {α : Type} {f : α → D} {m : List (Str × α)} {P : R → Prop} (h : m.length < 64) (p : P (.ow (.lst ((srtS (m.map (·.1))).map .str)))) : fSorted (.dk (dkv Sum.inr f m)) P := by
  refine .inr ⟨m.map (·.1), keys_dkv m, by rw [List.length_map]; exact h, fun ys h1 h2 => ?_⟩
  rw [srtS_eq h1 (sortedS_pw h2)]
  exact p
theorem in_mk {α : Type} {f : α → D} {m : List (Int × α)} {n : Int} {neg : Bool} {P : R → Prop} (p : P (.sh (.bl (if neg then !decide (n ∈ m.map (·.1)) else decide (n ∈ m.map (·.1)))))) : fInU neg (.int n) (.dk (dkv Sum.inl f m)) P := by
  refine ⟨.inl n, rfl, ?_⟩
  have e : (valD (dkv Sum.inl f m) (.inl n)).isSome = decide (n ∈ m.map (·.1)) := by
    rw [valD_dkv inl_inj, Option.isSome_map, Bool.eq_iff_iff, aget_mem, decide_eq_true_iff]
  have e2 : (valD (dkv Sum.inl f m) (.inl n)).isNone = !decide (n ∈ m.map (·.1)) := by rw [← e]; cases valD (dkv Sum.inl f m) (.inl n) <;> rfl
  rw [e, e2]
  exact p
theorem in_ek {α : Type} {f : α → D} {m : List (Str × α)} {z : Str} {neg : Bool} {P : R → Prop} (p : P (.sh (.bl (if neg then !decide (z ∈ m.map (·.1)) else decide (z ∈ m.map (·.1)))))) : fInU neg (.str z) (.dk (dkv Sum.inr f m)) P := by
  refine ⟨.inr z, rfl, ?_⟩
  have e : (valD (dkv Sum.inr f m) (.inr z)).isSome = decide (z ∈ m.map (·.1)) := by
    rw [valD_dkv inr_inj, Option.isSome_map, Bool.eq_iff_iff, aget_mem, decide_eq_true_iff]
  have e2 : (valD (dkv Sum.inr f m) (.inr z)).isNone = !decide (z ∈ m.map (·.1)) := by rw [← e]; cases valD (dkv Sum.inr f m) (.inr z) <;> rfl
  rw [e, e2]
  exact p
theorem at_mk {α : Type} {f : α → D} {m : List (Int × α)} {n : Int} {a : α} {P : R → Prop} (h : aget m n = some a) (p : P (.sh (f a))) : fAt (.dk (dkv Sum.inl f m)) (.int n) P := at_I (by rw [valD_dkv inl_inj, h]; rfl) p
theorem at_ek {α : Type} {f : α → D} {m : List (Str × α)} {z : Str} {a : α} {P : R → Prop} (h : aget m z = some a) (p : P (.sh (f a))) : fAt (.dk (dkv Sum.inr f m)) (.str z) P := at_S (by rw [valD_dkv inr_inj, h]; rfl) p
theorem dict_pairs {α : Type} {κ : Type} [DecidableEq κ] {kj : κ → Key} (hj : ∀ a b, kj a = kj b → a = b) {f : α → D} {l : List (κ × α)} {P : R → Prop} {xs : List D} (hx : xs.map pairK = l.map fun q => some (kj q.1, f q.2)) (hn : (l.map (·.1)).Nodup) (p : P (.ow (.dk (dkv kj f l)))) : fDict (.lst xs) P := by
  refine ⟨l.map fun q => (kj q.1, f q.2), by rw [hx, List.map_map]; rfl, ?_⟩
  have go : ∀ (r acc : List (κ × α)), ((acc ++ r).map (·.1)).Nodup → mergeD (dkv kj f acc) (r.map fun q => (kj q.1, f q.2)) = dkv kj f (acc ++ r) := by
    intro r
    induction r with
    | nil => intro acc _; rw [List.append_nil]; rfl
    | cons q r ih =>
      intro acc hn
      show mergeD (putD (dkv kj f acc) (kj q.1) (f q.2)) _ = _
      rw [putD_dkv hj]
      have hq : q.1 ∉ acc.map (·.1) := fun hm => by
        rw [List.map_append, List.nodup_append] at hn
        exact hn.2.2 _ hm q.1 (by simp) rfl
      have e : aput acc q.1 q.2 = acc ++ [q] := by
        unfold aput
        rw [if_neg]
        intro z
        rw [List.any_eq_true] at z
        obtain ⟨x, hx, e⟩ := z
        exact hq (List.mem_map.mpr ⟨x, hx, of_decide_eq_true e⟩)
      rw [e, ih (acc ++ [q]) (by rw [List.append_assoc]; exact hn), List.append_assoc]
      rfl
  have := go l [] hn
  rw [show dkv kj f [] = [] from rfl, List.nil_append] at this
  rw [this]
  exact p
end DL
namespace DL
open PySem L2 PyProof.Rows
/-! ### sorted(xs), xs a tuple of numbers -/
theorem call_sortTup {X : Cx} (calm : X.calm = true) : CallR X (.builtin "sorted") (fun xs H Q => ∃ (a : Addr) (ns : List Int), xs = [.ref a] ∧ SqT X.K H a (ns.map V.int) ∧ ns.length ≤ 1000000 ∧
    ∀ (zs : List Int) (p : Addr), zs.Perm ns → zs.Pairwise (· ≤ ·) → H p = none → Q (.ref p) (upd H p (.lst (zs.map V.int)))) := by
  intro pins s σ H xs us Q I rx ⟨a, ns, hxs, hq, hn, kk⟩
  subst hxs
  obtain ⟨x, rfl, ra⟩ := vals1 rx
  cases ra
  obtain ⟨its, rv, ⟨o, h1, h2, m, h3⟩, _⟩ := I.tuple hq
  have fits : ns.length ≤ sizeLine := by rw [sizeLine_eq]; omega
  have hl : its.length = ns.length := by rw [← rv.length, List.length_map]
  refine Calls.call_function_entry kind_sorted plain_sorted entry_sorted (args_sorted1 _) (wpAny_bind (m := checkCount "sorted" 1 1 _) (wpAny_pure (wpAny_bind ?_)))
  refine wpAny_collect_seq a (.inr rfl) h1 h2 h3 (fun g hg => ?_) (by rw [List.size_toArray, hl]; exact fits)
  have hi : IntsAre its ns := rv.ints
  have I1 : Inv X pins σ H { s with heap := g } := I.kept (t' := s.toks) hg
  rw [show its.toArray.toList = its from rfl]
  refine wpAny_bind (wpAny_newList ?_ (by rw [hl]; exact fits))
  have hL := Heap.get?_push_size g (o := seqObj "list" its.toArray 0) rfl
  refine wpAny_bind (wpAny_holding (wpAny_call_entry slot_list_sort ⟨_, hL, rfl⟩ entry_list_sort (SrtO.list_sort_ord (s := { s with heap := g.push (seqObj "list" its.toArray 0) }) SrtO.swo_int hL (by rw [hl]; exact fits) (fun h => SrtO.ints_sortable hi h) fun zs q1 q2 => ⟨_, rfl, ?_⟩) (args_list_sort _)))
  obtain ⟨k1, k2, k3⟩ := SrtO.ints_out hi q1 q2
  obtain ⟨ep, hz⟩ := sortedHeap_at (vs := its) (out := zs.toArray) hL
  have zl : ((zs.map SrtO.iv).map V.int).length ≤ sizeLine := by rw [List.length_map, k2.length_eq]; exact fits
  refine wpAny_pure ⟨_, rfl, .ref g.objs.size, upd H g.objs.size (.lst ((zs.map SrtO.iv).map V.int)), I1.laid (t' := s.toks) (fun c u e => ?_) (Nat.le_refl _) (show ObjOk X.prog X.w _ _ _ (.lst ((zs.map SrtO.iv).map V.int)) from ⟨zl, zs, ep, vals_of_ints k1, hz⟩), rfl, kk _ _ k2 k3 (I1.hok.fresh (Nat.le_refl _))⟩
  have lt : c < g.objs.size := Heap.lt_size e
  rw [sortedHeap_old (Nat.ne_of_lt lt) (by rw [size_push']; exact Nat.lt_succ_of_lt lt)]
  exact Heap.get?_push_of_some _ e
section
variable {X : Cx} {b : Bg} {K : PySem.W.Frag}
/-- sorted of anything: lists, tuples of numbers, dicts -/
def fSortedV (d : D) (P : R → Prop) : Prop := match d with
  | .tup xs => ∃ ns : List Int, xs = ns.map .int ∧ ns.length ≤ 1000000 ∧ ordI ns P
  | d => fSortedU d P
theorem lc_sortedV : LC K (fun xs H Q => rSrtU K xs H Q ∨ (fun xs H Q => ∃ (a : Addr) (ns : List Int), xs = [.ref a] ∧ SqT K H a (ns.map V.int) ∧ ns.length ≤ 1000000 ∧
    ∀ (zs : List Int) (p : Addr), zs.Perm ns → zs.Pairwise (· ≤ ·) → H p = none → Q (.ref p) (upd H p (.lst (zs.map V.int)))) xs H Q) fSortedV := by
  intro b L G0 H0 G H σ e d x P Q g h hf k
  unfold fSortedV at hf
  split at hf
  · obtain ⟨ns, rfl, hn, q⟩ := hf
    obtain ⟨a, vs, rfl, ha, hr⟩ := h
    rw [repL_ints hr] at ha
    exact .inr ⟨a, ns, rfl, ha, hn, fun ys p pm so np => g.newL (repL_ints' ys) (q ys pm so) k p np⟩
  · exact .inl (lc_sortedU b L G0 H0 G H σ e _ x P Q g h hf k)
theorem d_sortedV {a : Expr} {u : DE} {p pos : Pos} (hm : X.mg "sorted" = none) (h1 : PD X b a u) (hc : X.calm = true := by rfl) (hg : Gl X "sorted" := by rfl) (hs : starEach (a :: []) X.env = (false, eval a X.env) :: starEach [] X.env := by rfl) (hpl : (backTo pos (starEach [] X.env)).any (·.1) = false := by rfl) :
    PD X b (.Call (.Name "sorted" p) [a] [] pos) (uB fSortedV u) := d_b1 (callR_or (callR_or (cr_srt hc) (call_sortBig hc)) (call_sortTup hc)) lc_sortedV hm (by decide +kernel) h1 hg (hs := hs) (hpl := hpl)
theorem sortV_mk {α : Type} {f : α → D} {m : List (Int × α)} {P : R → Prop} (h : m.length < 64) (p : P (.ow (.lst ((srtI (m.map (·.1))).map .int)))) : fSortedV (.dk (dkv Sum.inl f m)) P := .inl (fSorted_mk h p)
theorem sortV_ek {α : Type} {f : α → D} {m : List (Str × α)} {P : R → Prop} (h : m.length < 64) (p : P (.ow (.lst ((srtS (m.map (·.1))).map .str)))) : fSortedV (.dk (dkv Sum.inr f m)) P := .inl (fSorted_ek h p)
theorem sortV_I {zs : List Int} {P : R → Prop} (p : P (.ow (.lst ((srtI zs).map .int)))) : fSortedV (.lst (zs.map .int)) P := .inl (fSorted_I p)
theorem sortV_S {zs : List Str} {P : R → Prop} (h : zs.length < 64) (p : P (.ow (.lst ((srtS zs).map .str)))) : fSortedV (.lst (zs.map .str)) P := .inl (fSorted_S h p)
theorem sortV_T {zs : List Int} {P : R → Prop} (h : zs.length ≤ 1000000) (p : P (.ow (.lst ((srtI zs).map .int)))) : fSortedV (.tup (zs.map .int)) P := ⟨zs, rfl, h, fun ys h1 h2 => by rw [srtI_eq h1 h2]; exact p⟩
end
end DL
namespace DL
open PySem L2 PyProof.Rows PySem.Spec
/-! ### a caught exception, known -/
section
variable {X : Cx} {b : Bg} {K : PySem.W.Frag}
/-- a field of a caught exception -/
def uXf (K : PySem.W.Frag) (n : Str) (u : DE) : DE := fun e P => u e fun r => ∃ C fs y, r = .sh (.exc C fs) ∧ XfC K C ∧ PySem.W.findIn K (.ref C) n = some none ∧ fs.lookup n = some y ∧ P (.sh y)
end
/-! ### try: .. except C1 as n: .. except C2 as n: .. -/
section
variable {X : Cx} {pins : List (Addr × Obj)} {σ : L2.St} {H : Hp} {s : Shared}
end
section
variable {X : Cx} {x1 x2 n : Str} {c1 c2 : Value} {i : Nat} {body r1 r2 : List Stmt} {b1 b2 : Stmt} {np1 np2 p1 p2 pos : Pos} {tb : WX → TS} {ts : TS}
end
end DL
namespace DL
open PySem L2 PyProof.Rows PySem.Spec
/-! ### defs that may be called while an exception is handled (no loop, no raise) -/
def Cool (A : Around) : Around := { A with handled := none }
structure FnC (P : Program) (w : World) (K : PySem.W.Frag) (mg : Str → Option Value) (base : Heap) (k : Nat) (f : Addr) (fd : FuncData) (ps : List Str) (sp : Sp) : Prop where
  len : ∀ vs H Q E, sp vs H Q E → vs.length = ps.length
  run : ∀ (A : Around) (outer : List Env) (s : Shared) (H : Hp) (args : Args) (us : List Value) (vs : List V) (Q : VK), Room k (Cool A) → Env0 P w K mg base A outer s H → BindsTo s fd args (ps.zip us) → Vals vs us → sp vs H Q E0 →
    codeAny (model P w) A (.call (.ref f) args) (CR CX0 outer P w H s Q E0) s
/-- such a def at its name -/
structure KnownF (P : Program) (w : World) (K : PySem.W.Frag) (mg : Str → Option Value) (base : Heap) (x : Str) (k : Nat) (ps : List Str) (sp : Sp) : Prop where
  ex : ∃ f fd, FnC P w K mg base k f fd ps sp ∧ mg x = some (.ref f) ∧ PySem.W.keepIn K (.ref f) = true ∧ Binds K fd ps []
section
variable {X : Cx} {K : PySem.W.Frag}
end
end DL
namespace DL
open PySem L2 PyProof.Rows PySem.Spec LamX
/-! ### x(lambda: body): what its making does to the heap, to the letter -/
section
variable {X : Cx}
end
end DL
namespace DL
open PySem L2 PyProof.Rows PySem.Spec LamX
/-! ### def x(a): try: return ('', a()) / except X1 as n: return (n.code, fld(n)) / except X2 as n: the same -/
def Caught (K : PySem.W.Frag) (C1 C2 : Addr) (cls : Value) : Prop := PySem.W.exmOne K cls (.ref C1) = some true ∨ (PySem.W.exmOne K cls (.ref C1) = some false ∧ PySem.W.exmOne K cls (.ref C2) = some true)
/-- the def stands at its name -/
structure KnownT (P : Program) (w : World) (K : PySem.W.Frag) (mg : Str → Option Value) (base : Heap) (x : Str) (st : Stmt) (a x1 x2 fld : Str) (C1 C2 : Addr) (FF : FS) : Prop where
  ex : ∃ g fd, Fun K x x st g fd ∧ mg x = some (.ref g) ∧ Binds K fd [a] []
  m1 : mg x1 = some (.ref C1)
  m2 : mg x2 = some (.ref C2)
  F : ∃ pf, KnownF P w K mg base fld 2 [pf] (spN K FF)
section
variable {X : Cx} {b : Bg} {K : PySem.W.Frag}
/-- what is caught, what is said of it -/
def XOk (K : PySem.W.Frag) (C1 C2 C : Addr) : Prop := Caught K C1 C2 (.ref C) ∧ XfC K C ∧ PySem.W.findIn K (.ref C) "code" = some none
def xpT (K : PySem.W.Frag) (C1 C2 : Addr) (FF : FS) (P : R → Prop) : XD → Prop := fun x => XOk K C1 C2 x.1 ∧ (x.2.map (·.1)).Nodup ∧ ∃ d1, x.2.lookup ("code" : Str) = some d1 ∧ FF [.exc x.1 x.2] fun r => r.keep fun y => P (.sh (.tup [d1, y]))
def hideO : Sl → Sl
  | .own _ _ => .un
  | .tr _ => .un
  | s => s
def uTried (K : PySem.W.Frag) (Pt : Addr) (q : Str) (C1 C2 : Addr) (FF : FS) (u : (XD → Prop) → DE) : DE := fun e P => nth e 0 = .sh (.tabl Pt q) ∧ u (xpT K C1 C2 FF P) (e.map hideO) fun r => r.keep fun d => P (.sh (.tup [.str "", d]))
end
end DL
namespace DL
open PySem L2 PyProof.Rows PySem.Spec LamX
/-! ### the law's own text, where it makes lambdas -/
section
variable {K : PySem.W.Frag}
variable {P : Program} {w : World} {mg : Str → Option Value} {base : Heap}
end
end DL
namespace DL
open PySem L2 PyProof.Rows PySem.Spec LamX
/-! ### what the written part says of error classes and of the law's table -/
section
variable {K : PySem.W.Frag}
theorem e_hm0 : List.map hideO [] = [] := rfl
theorem e_hm1 {x : Sl} {xs : List Sl} : List.map hideO (x :: xs) = hideO x :: List.map hideO xs := rfl
theorem e_hsh {d : D} : hideO (.sh d) = .sh d := rfl
theorem e_hun : hideO .un = .un := rfl
theorem e_hown {q : Option Addr} {o : OD} : hideO (.own q o) = .un := rfl
theorem e_hbag : hideO .bag = .bag := rfl
/-- an __init__ of the text -/
theorem fun_mkI {x qual : Str} {st : Stmt} {f : Addr} {oc : Value} {od an : Option Addr} {osl : Array (Option Value)} {kV doc pm cdv ct : Value} (l : K.lookup f = some ⟨oc, od, .func (PySem.W.fnOf x qual (defArgs st) (defBody st) (defScope st) .none kV doc pm an cdv ct), osl⟩) (c : PySem.W.codeIn K cdv qual = true) (k : PySem.W.keepIn K (.ref f) = true) : Fun K x qual st f (PySem.W.fnOf x qual (defArgs st) (defBody st) (defScope st) .none kV doc pm an cdv ct) :=
  ⟨⟨oc, od, kV, doc, pm, an, cdv, ct, osl, rfl, l, c⟩, k⟩
end
end DL
namespace DL
open PySem L2 PyProof.Rows
/-! ### enumerate(text) -/
section
variable {X : Cx} {b : Bg} {K : PySem.W.Frag}
/-- enumerate(text) -/
def asSE (P : List D → Prop) : D → Prop
  | .str x => P (enums (signs x))
  | _ => False
def uEnumS (u : DE) : DI := fun e P => u e (R.keep (asSE P))
theorem e_asSE {x : Str} {P : List D → Prop} : asSE P (.str x) = P (enums (signs x)) := rfl
end
end DL
namespace DL
open PySem L2 PyProof.Rows
/-! ### methods and constructors that raise -/
structure KnownMX (P : Program) (w : World) (K : PySem.W.Frag) (mg : Str → Option Value) (base : Heap) (C : Addr) (m : Str) (k : Nat) (ps : List Str) (sp : Sp) : Prop where
  ex : ∃ g fd, FnOk P w K mg base (L2.CX P w) k g fd ps sp ∧ Meth K C m g ∧ Cls K C ∧ Binds K fd ps []
structure KnownIX (P : Program) (w : World) (K : PySem.W.Frag) (mg : Str → Option Value) (base : Heap) (x : Str) (C : Addr) (k : Nat) (ps : List Str) (sp : Sp) : Prop where
  ex : ∃ g fd, FnOk P w K mg base (L2.CX P w) k g fd ps sp ∧ Mk K C g ∧ mg x = some (.ref C) ∧ Binds K fd ps []
structure KnownCX (P : Program) (w : World) (K : PySem.W.Frag) (mg : Str → Option Value) (base : Heap) (C : Addr) (mc : Value) (m : Str) (k : Nat) (ps : List Str) (dds : List D) (sp : Sp) : Prop where
  ex : ∃ p g fd ds dvs, FnOk P w K mg base (L2.CX P w) k g fd ps sp ∧ ClX.CMet K C mc m p g ∧ Binds K fd ps ds ∧ Vals dvs ds ∧ ∀ G, RepL K G dds dvs
abbrev FIX := List D → (List (Str × D) → Prop) → (XD → Prop) → Prop
section
variable {X : Cx} {b : Bg} {K : PySem.W.Frag}
def uMethX (C : Addr) (m : Str) (f : FSX) (xp : XD → Prop) (uo : DE) (ua : DA) : DE := fun e P => uo e (R.keep fun d => ∃ fs, d = .obj C fs ∧ fs.lookup m = none ∧ ua e fun ds => f (d :: ds) P xp)
theorem le_methX {C : Addr} {m : Str} {f : FSX} {xp : XD → Prop} {E : XK} {to : TE} {ta : TA} {uo : DE} {ua : DA} (l1 : LE K b to uo) (l2 : LA K b ta ua) (hE : ∀ {L : Lk} {G0 H0 G H G' H' : Hp} {σ : L2.St} {e : List Sl} {x : XD} {cls : Value} {d : Option Addr}, Good K b L G0 H0 G H σ e → Stp none [] G H G' H' → XRep K G' H' x cls d → xp x → E cls d H') :
    LE K b (tMeth C m (spX K f) [] E to ta) (uMethX C m f xp uo ua) := by
  intro L G0 H0 G H σ e P Q g hu k
  refine l1 L G0 H0 G H σ e _ _ g hu fun v r G1 H1 s1 hr q => ?_
  obtain ⟨d, G2, s2, hd, q⟩ := hr.freeze s1 q
  obtain ⟨fs, rfl, hm, q⟩ := q
  have g2 := g.step s2
  obtain ⟨a, dx, vs, rfl, hG, hrf⟩ := id hd
  have hH : H1 a = some (.ins C dx vs) := by
    rcases g2.ex.old a _ hG with z | ⟨_, _, z, _⟩
    · exact z
    · cases z
  refine ⟨a, dx, vs, rfl, hH, hrf.lnone hm, ?_⟩
  refine l2 L G0 H0 G2 H1 σ e _ _ g2 q fun ws ds G3 H3 s3 hr3 q3 => ?_
  have s23 := s2.trans s3
  have g3 := g.step s23
  rw [List.append_nil]
  refine ⟨G3, .obj C fs :: ds, P, xp, g3.ex, ⟨_, _, rfl, hd.mono s3.g, hr3⟩, q3, fun v r G' H' s hr hp => ?_, fun x cls d G' H' s hx hp => hE g3 s hx hp⟩
  exact k v r G' H' (s23.trans s.some) (ret_rep g3 hr fun a hb z => s23.back a hb z) hp
theorem hE_tk (hi : ∀ F G H, b.inv F G H) {L : Lk} {G0 H0 G H G' H' : Hp} {σ : L2.St} {e : List Sl} {x : XD} {cls : Value} {d : Option Addr} (g : Good K b L G0 H0 G H σ e) (s : Stp none [] G H G' H') (hx : XRep K G' H' x cls d) (h : b.xp x) : (fun cls d H => ∀ σ, b.W cls d σ H : XK) cls d H' := fun σ' => g.out s hx h σ' (hi _ _ _)
theorem d_methX {C : Addr} {m : Str} {k : Nat} {ps : List Str} {f : FSX} {o a : Expr} {es : List Expr} {uo : DE} {ua : DA} {apos pos : Pos} {pl : Sem Bool} (tk : L2.Takes X b.W) (F : KnownMX X.prog X.w X.K X.mg X.base C m k ps (spX X.K f)) (hr : Room k X.A) (ho : PD X b o uo) (ha : PDA X b (a :: es) ua)
    (hst : starEach (a :: es) X.env = (false, eval a X.env) :: starEach es X.env := by rfl) (hpl : (backTo pos (starEach es X.env)).any (·.1) = false := by rfl)
    (ht : eval (.Call (.Attribute o m apos) (a :: es) [] pos) X.env = (do
      let ov ← eval o X.env
      standAt apos.atName
      let (f, first) ← holding [ov] (getMethod ov m pl)
      callWith pos f first (backTo pos (starEach (a :: es) X.env)) (backToKw pos (keywordEach [] X.env))) := by rfl) (hi : ∀ F G H, b.inv F G H := by intro _ _ _; exact True.intro) : PD X b (.Call (.Attribute o m apos) (a :: es) [] pos) (uMethX C m f b.xp uo ua) := by
  obtain ⟨g, fd, F, M, c, bi⟩ := F
  obtain ⟨to, po, lo⟩ := ho
  obtain ⟨ta, pa, la⟩ := ha
  exact ⟨_, pe_meth (E := fun cls d H => ∀ σ, b.W cls d σ H) (pl := pl) po c M F hr bi .nil (passes_call tk fun _ _ σ _ h => h σ) pa hst hpl ht, le_methX lo la (hE_tk hi)⟩
theorem d_methXq {C : Addr} {m : Str} {k : Nat} {ps : List Str} {f : FSX} {o a : Expr} {es : List Expr} {uo : DE} {ua : DA} {apos pos : Pos} {pl : Sem Bool} (F : KnownMX X.prog X.w X.K X.mg X.base C m k ps (spX X.K f)) (hr : Room k X.A) (ho : PD X b o uo) (ha : PDA X b (a :: es) ua)
    (hst : starEach (a :: es) X.env = (false, eval a X.env) :: starEach es X.env := by rfl) (hpl : (backTo pos (starEach es X.env)).any (·.1) = false := by rfl)
    (ht : eval (.Call (.Attribute o m apos) (a :: es) [] pos) X.env = (do
      let ov ← eval o X.env
      standAt apos.atName
      let (f, first) ← holding [ov] (getMethod ov m pl)
      callWith pos f first (backTo pos (starEach (a :: es) X.env)) (backToKw pos (keywordEach [] X.env))) := by rfl) : PD X b (.Call (.Attribute o m apos) (a :: es) [] pos) (uMethX C m f (fun _ => False) uo ua) := by
  obtain ⟨g, fd, F, M, c, bi⟩ := F
  obtain ⟨to, po, lo⟩ := ho
  obtain ⟨ta, pa, la⟩ := ha
  exact ⟨_, pe_meth (E := E0) (pl := pl) po c M F hr bi .nil passL pa hst hpl ht, le_methX lo la fun _ _ _ h => h.elim⟩
/-! C(..) -/
def uMakeX (C : Addr) (f : FIX) (xp : XD → Prop) (ua : DA) : DE := fun e P => ua e fun ds => f ds (fun fs => P (.ow (.obj C fs))) xp
end
section
variable {P : Program} {w : World} {K : PySem.W.Frag} {mg : Str → Option Value} {base : Heap}
theorem fnOk_MX {x qual : Str} {st : Stmt} {f : Addr} {fd : FuncData} {N ps : List Str} {k : Nat} {fs : FSX} {u : (XD → Prop) → DS} (F : Fun K x qual st f fd) (S : FnScope N ps (defScope st)) (len : ∀ ds P XP, fs ds P XP → ds.length = ps.length)
    (hb : ∀ (xp : XD → Prop) (cdv : Value) (A : Around) (outer : List Env) (s : Shared) (H : Hp) (E : XK), Room k (A.deeper (envOfC qual (defScope st) s.heap.objs.size f cdv)) → L2.Takes (cxOf (L2.CX P w) P w K mg base N qual (defScope st) f cdv A outer s H E) (bE none E xp).W → PassesOwn (model P w) (cxOf (L2.CX P w) P w K mg base N qual (defScope st) f cdv A outer s H E).A (cxOf (L2.CX P w) P w K mg base N qual (defScope st) f cdv A outer s H E).env (cxOf (L2.CX P w) P w K mg base N qual (defScope st) f cdv A outer s H E).xe → PDSs (cxOf (L2.CX P w) P w K mg base N qual (defScope st) f cdv A outer s H E) (bE none E xp) (defBody st) (u xp))
    (hu : ∀ ds P XP, fs ds P XP → u XP ⟨fun _ => P (.sh .non), fun r _ => P r, fun _ => False, fun _ => False⟩ (env0 N ds)) : FnOk P w K mg base (L2.CX P w) (k + 1) f fd ps (spX K fs) := fnOk_X F S len hb hu
end
end DL
/-! ### data compared, whatever stands within: dicts, tuples, lists -/
namespace DL
open PySem PySem.SeqAt
section
open AutoSeq1 (wpAny_loadPart')
open MeetsSeq MeetsSeq2 MeetsSeq3 SeqRoads2
variable {prog : Program} {w : World}
end
open L2 PyProof.Rows PySem.W
/-! the relation over the layer's values -/
def sc2 : V → V → Bool
  | .byt _, _ => false
  | x, y => scal x y
inductive EqV (K : PySem.W.Frag) (H : Hp) : Nat → V → V → Bool → Prop
  | scal {n : Nat} {x y : V} : sc2 x y = true → EqV K H n x y (decide (x = y))
  | tup {n : Nat} {a b : Addr} {xs ys : List V} {e : Nat → Bool} : SqT K H a xs → SqT K H b ys → (∀ (i : Nat) (x y : V), xs[i]? = some x → ys[i]? = some y → EqV K H n x y (e i)) → EqV K H (n + 1) (.ref a) (.ref b) ((List.range (min xs.length ys.length)).all e && xs.length == ys.length)
  | lst {n : Nat} {a b : Addr} {xs ys : List V} {e : Nat → Bool} : SqL K H a xs → SqL K H b ys → xs.length = ys.length → (∀ (i : Nat) (x y : V), xs[i]? = some x → ys[i]? = some y → EqV K H n x y (e i)) → EqV K H (n + 1) (.ref a) (.ref b) ((List.range xs.length).all e)
  | lstL {n : Nat} {a b : Addr} {xs ys : List V} : SqL K H a xs → SqL K H b ys → xs.length ≠ ys.length → EqV K H (n + 1) (.ref a) (.ref b) false
  | dk {n : Nat} {a b : Addr} {ka kb : List (Key × V)} {e : Key → Bool} : Rd H a (.dK ka) → Rd H b (.dK kb) → (ka.map (·.1)).Nodup → (∀ (k : Key) (v y : V), (k, v) ∈ ka → valV kb k = some y → EqV K H n v y (e k)) → EqV K H (n + 1) (.ref a) (.ref b) (ka.length == kb.length && ka.all fun p => (valV kb p.1).isSome && e p.1)
section
variable {X : Cx} {pins : List (Addr × Obj)} {σ : L2.St} {H : Hp} {s : Shared}
theorem rd_dk {a : Addr} {k1 k2 : List (Key × V)} (h1 : Rd H a (.dK k1)) (h2 : Rd H a (.dK k2)) : k1 = k2 := by
  rcases h1 with h1 | ⟨_, h1⟩ <;> rcases h2 with h2 | ⟨_, h2⟩ <;> first | (rw [h1] at h2; cases h2; rfl) | (rw [h1] at h2; cases h2)
theorem valV_nodup : ∀ {ks : List (Key × V)} {k : Key} {v : V}, (ks.map (·.1)).Nodup → (k, v) ∈ ks → valV ks k = some v
  | p :: r, k, v, nd, h => by
    rw [List.map_cons, List.nodup_cons] at nd
    rcases List.mem_cons.mp h with rfl | h
    · exact valV_pos rfl
    · have ne : ¬ p.1 = k := fun z => nd.1 (List.mem_map.mpr ⟨(k, v), h, z.symm⟩)
      rw [valV_neg ne]
      exact valV_nodup nd.2 h
theorem EqV.refl (I : Inv X pins σ H s) {n : Nat} {x y : V} {c : Bool} (h : EqV X.K H n x y c) : x = y → c = true := by
  induction h with
  | scal _ => intro z; exact decide_eq_true z
  | tup h1 h2 _ ih =>
    intro z
    cases z
    have e := I.tuple_inj h1 h2
    subst e
    simp only [Nat.min_self, beq_self_eq_true, Bool.and_true, List.all_eq_true]
    intro i hi
    have hi := List.mem_range.mp hi
    exact ih i _ _ (List.getElem?_eq_getElem hi) (List.getElem?_eq_getElem hi) rfl
  | lst h1 h2 _ _ ih =>
    intro z
    cases z
    have e := I.list_inj h1 h2
    subst e
    rw [List.all_eq_true]
    intro i hi
    have hi := List.mem_range.mp hi
    exact ih i _ _ (List.getElem?_eq_getElem hi) (List.getElem?_eq_getElem hi) rfl
  | lstL h1 h2 ne =>
    intro z
    cases z
    exact absurd (congrArg List.length (I.list_inj h1 h2)) ne
  | dk h1 h2 nd _ ih =>
    intro z
    cases z
    have e := rd_dk h1 h2
    subst e
    simp only [beq_self_eq_true, Bool.true_and, List.all_eq_true]
    rintro ⟨k, v⟩ hm
    have hv := valV_nodup nd hm
    show ((valV _ k).isSome && _) = true
    rw [hv, ih k v v hm hv rfl]; rfl
theorem eqat_f {A : Around} {v u : Value} {p : Prop} [Decidable p] (h : ¬ p) (e : EqAt A s v u false) : EqAt A s v u (decide p) := by rw [decide_eq_false h]; exact e
theorem eq_leaf {A : Around} {x y : V} {v u : Value} (h : sc2 x y = true) (rx : RelV x v) (ry : RelV y u) : EqAt A s v u (decide (x = y)) := by
  cases x with
  | byt _ => cases h
  | flt _ => cases y <;> cases h
  | ref _ => cases y <;> cases h
  | ty _ => cases y <;> cases h
  | non =>
    obtain rfl : v = Value.none := rx
    cases y with
    | non => obtain rfl : u = Value.none := ry; rw [decide_eq_true rfl]; exact EqAt.same _
    | bl c => obtain rfl : u = Value.bool c := ry; exact eqat_f (fun z => nomatch z) (EqAt.none_bool c)
    | int i => obtain ⟨t, rfl⟩ := ry; exact eqat_f (fun z => nomatch z) (EqAt.none_int i t)
    | str i => obtain ⟨t, rfl⟩ := ry; exact eqat_f (fun z => nomatch z) (EqAt.none_str i t)
    | _ => cases h
  | bl b =>
    obtain rfl : v = Value.bool b := rx
    cases y with
    | non => obtain rfl : u = Value.none := ry; exact eqat_f (fun z => nomatch z) (EqAt.bool_none b)
    | bl c => obtain rfl : u = Value.bool c := ry; rw [dec_bl]; exact EqAt.bool_bool b c
    | str i => obtain ⟨t, rfl⟩ := ry; exact eqat_f (fun z => nomatch z) (EqAt.bool_str b i t)
    | _ => cases h
  | int j =>
    obtain ⟨tj, rfl⟩ := rx
    cases y with
    | non => obtain rfl : u = Value.none := ry; exact eqat_f (fun z => nomatch z) (EqAt.int_none j tj)
    | int i => obtain ⟨t, rfl⟩ := ry; rw [dec_int]; exact EqAt.int_int j tj i t
    | str i => obtain ⟨t, rfl⟩ := ry; exact eqat_f (fun z => nomatch z) (EqAt.int_str j tj i t)
    | _ => cases h
  | str j =>
    obtain ⟨tj, rfl⟩ := rx
    cases y with
    | non => obtain rfl : u = Value.none := ry; exact eqat_f (fun z => nomatch z) (EqAt.str_none j tj)
    | bl c => obtain rfl : u = Value.bool c := ry; exact eqat_f (fun z => nomatch z) (EqAt.str_bool j tj c)
    | int i => obtain ⟨t, rfl⟩ := ry; exact eqat_f (fun z => nomatch z) (EqAt.str_int j tj i t)
    | str i => obtain ⟨t, rfl⟩ := ry; rw [dec_str]; exact EqAt.str_str j tj i t
    | _ => cases h
theorem get_arr {xs : List V} {its : List Value} (r : Vals xs its) {j : Nat} (h : j < its.toArray.size) : ∃ x, xs[j]? = some x ∧ RelV x its.toArray[j] := by
  have hl := r.length
  have hj : j < xs.length := by rw [hl]; simpa using h
  obtain ⟨u, hu, ru⟩ := r.get (List.getElem?_eq_getElem hj)
  refine ⟨_, List.getElem?_eq_getElem hj, ?_⟩
  have e : its.toArray[j] = u := by
    have : its[j]? = some its.toArray[j] := by simp
    rw [hu] at this
    exact (Option.some.inj this).symm
  rw [e]
  exact ru
theorem kv_mem {l1 : List (Key × V)} {l2 : List (Key × Value)} {k : Key} {v : Value} (r : KV l1 l2) (h : (k, v) ∈ l2) : ∃ x, (k, x) ∈ l1 ∧ RelV x v := by
  unfold KV at r
  induction r with
  | nil => cases h
  | @cons p q ps qs hq t ih =>
    rcases List.mem_cons.mp h with rfl | h
    · refine ⟨p.2, ?_, hq.2⟩
      have : (k, p.2) = p := by rw [← show p.1 = k from hq.1]
      rw [this]; exact List.mem_cons_self
    · obtain ⟨x, hx, rx⟩ := ih h
      exact ⟨x, List.mem_cons_of_mem _ hx, rx⟩
theorem kv_all {kb : List (Key × V)} {vb : List (Key × Value)} (rb : KV kb vb) {e : Key → Bool} {l1 : List (Key × V)} {l2 : List (Key × Value)} (r : KV l1 l2) : (l2.all fun p => (valueAt vb p.1).isSome && e p.1) = l1.all fun p => (valV kb p.1).isSome && e p.1 := by
  unfold KV at r
  induction r with
  | nil => rfl
  | @cons p q ps qs h t ih2 =>
    have ek : (valueAt vb q.1).isSome = (valV kb p.1).isSome := by
      rw [← h.1]
      have rr := rb.val p.1
      cases hk : valV kb p.1 <;> cases hk2 : valueAt vb p.1 <;> rw [hk, hk2] at rr <;> first | rfl | exact rr.elim
    rw [List.all_cons, List.all_cons, ih2, ek, h.1]
theorem EqV.tree (I : Inv X pins σ H s) {n : Nat} {x y : V} {c : Bool} (h : EqV X.K H n x y c) : ∀ {v u : Value}, RelV x v → RelV y u → EqTree X.prog X.w s n v u c := by
  induction h with
  | scal h => intro v u rx ry; exact .leaf fun A _ => eq_leaf h rx ry
  | @tup n a b xs ys e h1 h2 hh ih =>
    intro v u rx ry
    obtain rfl : v = Value.ref a := rx
    obtain rfl : u = Value.ref b := ry
    by_cases ab : a = b
    · subst ab
      rw [EqV.refl I (.tup h1 h2 hh) rfl]
      exact .same
    · obtain ⟨i1, r1, t1, _⟩ := I.tuple h1
      obtain ⟨i2, r2, t2, _⟩ := I.tuple h2
      have z := EqTree.tuples (prog := X.prog) (w := X.w) (n := n) (e := e) ab t1 t2 fun j g1 g2 => by
        obtain ⟨x, hx, rx⟩ := get_arr r1 g1
        obtain ⟨y, hy, ry⟩ := get_arr r2 g2
        exact ih j x y hx hy rx ry
      have l1 := r1.length
      have l2 := r2.length
      rw [List.size_toArray, List.size_toArray, ← l1, ← l2] at z
      exact z
  | @lst n a b xs ys e h1 h2 hl hh ih =>
    intro v u rx ry
    obtain rfl : v = Value.ref a := rx
    obtain rfl : u = Value.ref b := ry
    by_cases ab : a = b
    · subst ab
      rw [EqV.refl I (.lst h1 h2 hl hh) rfl]
      exact .same
    · obtain ⟨i1, r1, t1, _⟩ := I.list h1
      obtain ⟨i2, r2, t2, _⟩ := I.list h2
      have l1 := r1.length
      have l2 := r2.length
      have z := EqTree.lists (prog := X.prog) (w := X.w) (n := n) (e := e) ab t1.isList t2.isList (by rw [List.size_toArray, List.size_toArray, ← l1, ← l2]; exact hl) fun j g1 g2 => by
        obtain ⟨x, hx, rx⟩ := get_arr r1 g1
        obtain ⟨y, hy, ry⟩ := get_arr r2 g2
        exact ih j x y hx hy rx ry
      rw [List.size_toArray, ← l1] at z
      exact z
  | @lstL n a b xs ys h1 h2 hl =>
    intro v u rx ry
    obtain rfl : v = Value.ref a := rx
    obtain rfl : u = Value.ref b := ry
    have ab : a ≠ b := fun z => by
      subst z
      exact hl (congrArg List.length (I.list_inj h1 h2))
    obtain ⟨i1, r1, t1, _⟩ := I.list h1
    obtain ⟨i2, r2, t2, _⟩ := I.list h2
    have l1 := r1.length
    have l2 := r2.length
    exact EqTree.listsLen ab t1.isList t2.isList (by rw [List.size_toArray, List.size_toArray, ← l1, ← l2]; simpa using hl)
  | @dk n a b ka kb e h1 h2 nd hh ih =>
    intro v u rx ry
    obtain rfl : v = Value.ref a := rx
    obtain rfl : u = Value.ref b := ry
    by_cases ab : a = b
    · subst ab
      rw [EqV.refl I (.dk h1 h2 nd hh) rfl]
      exact .same
    · obtain ⟨_, ya, va, ra, da⟩ := (show ObjOk X.prog X.w H s.heap a (.dK ka) from h1.ok I.hok)
      obtain ⟨_, yb, vb, rb, db⟩ := (show ObjOk X.prog X.w H s.heap b (.dK kb) from h2.ok I.hok)
      have la : ka.length = va.length := ra.length
      have lb : kb.length = vb.length := rb.length
      have z := EqTree.dicts (prog := X.prog) (w := X.w) (knd := mixKind X.prog X.w) (n := n) (e := e) ab ya yb da db fun k v y hm hv => by
        obtain ⟨x, hx, rx⟩ := kv_mem ra hm
        have rr := rb.val k
        rw [hv] at rr
        cases hk : valV kb k with
        | none => rw [hk] at rr; exact rr.elim
        | some w => rw [hk] at rr; exact ih k x w hx hk rx rr
      rw [kv_all rb ra, ← la, ← lb] at z
      exact z
end
section
variable {X : Cx}
end
/-! over data -/
inductive EqD : Nat → D → D → Bool → Prop
  | fl {n : Nat} {d1 d2 : D} {c : Bool} : eqF d1 d2 = some c → EqD n d1 d2 c
  | tup {n : Nat} {xs ys : List D} {e : Nat → Bool} : (∀ (i : Nat) (x y : D), xs[i]? = some x → ys[i]? = some y → EqD n x y (e i)) → EqD (n + 1) (.tup xs) (.tup ys) ((List.range (min xs.length ys.length)).all e && xs.length == ys.length)
  | lst {n : Nat} {xs ys : List D} {e : Nat → Bool} : xs.length = ys.length → (∀ (i : Nat) (x y : D), xs[i]? = some x → ys[i]? = some y → EqD n x y (e i)) → EqD (n + 1) (.lst xs) (.lst ys) ((List.range xs.length).all e)
  | lstL {n : Nat} {xs ys : List D} : xs.length ≠ ys.length → EqD (n + 1) (.lst xs) (.lst ys) false
  | dk {n : Nat} {ka kb : List (Key × D)} {e : Key → Bool} : (ka.map (·.1)).Nodup → (∀ (k : Key) (v y : D), (k, v) ∈ ka → valD kb k = some y → EqD n v y (e k)) → EqD (n + 1) (.dk ka) (.dk kb) (ka.length == kb.length && ka.all fun p => (valD kb p.1).isSome && e p.1)
section
variable {K : PySem.W.Frag} {G H : Hp}
theorem repK_ks : ∀ {ks : List (Key × D)} {vs : List (Key × V)}, RepK K G ks vs → vs.map (·.1) = ks.map (·.1)
  | [], _, h => by rw [show _ = [] from h]; rfl
  | (k, x) :: xs, _, ⟨v, r, h1, _, h3⟩ => by rw [h1, List.map_cons, List.map_cons, repK_ks h3]
theorem repK_mem : ∀ {ks : List (Key × D)} {vs : List (Key × V)} {k : Key} {v : V}, RepK K G ks vs → (k, v) ∈ vs → ∃ d, (k, d) ∈ ks ∧ Rep K G d v
  | [], _, _, _, h, m => by rw [show _ = [] from h] at m; cases m
  | (k', x) :: xs, _, k, v, ⟨v', r, h1, h2, h3⟩, m => by
    rw [h1] at m
    rcases List.mem_cons.mp m with e | m
    · cases e; exact ⟨x, List.mem_cons_self, h2⟩
    · obtain ⟨d, q1, q2⟩ := repK_mem h3 m
      exact ⟨d, List.mem_cons_of_mem _ q1, q2⟩
theorem repK_all {kb : List (Key × D)} {wb : List (Key × V)} (hb : RepK K G kb wb) {e : Key → Bool} : ∀ {ks : List (Key × D)} {vs : List (Key × V)}, RepK K G ks vs → (vs.all fun p => (valV wb p.1).isSome && e p.1) = ks.all fun p => (valD kb p.1).isSome && e p.1
  | [], _, h => by rw [show _ = [] from h]; rfl
  | (k, x) :: xs, _, ⟨v, r, h1, _, h3⟩ => by
    rw [h1, List.all_cons, List.all_cons, repK_all hb h3]
    have : (valV wb k).isSome = (valD kb k).isSome := by
      rcases hb.get (k := k) with ⟨q1, q2⟩ | ⟨d, w, q1, q2, _⟩ <;> rw [q1, q2] <;> rfl
    rw [this]
theorem EqD.v (ex : Ex G H) {n : Nat} {d1 d2 : D} {c : Bool} (h : EqD n d1 d2 c) : ∀ {x y : V}, Top K G H d1 x → Top K G H d2 y → EqV K H n x y c := by
  induction h with
  | @fl n d1 d2 c h =>
    intro x y h1 h2
    obtain ⟨q1, q2⟩ := eqF_scal h h1 h2
    have q3 : sc2 x y = true := by
      unfold eqF at h
      split at h <;> first | cases h | skip
      all_goals (cases h1; cases h2)
      all_goals exact rfl
    rw [← q2]
    exact .scal q3
  | @tup n xs ys e hh ih =>
    rintro x y ⟨a, vs, rfl, sa, ra⟩ ⟨b, ws, rfl, sb, rb⟩
    have l1 := ra.length
    have l2 := rb.length
    rw [← l1, ← l2]
    refine .tup sa sb fun i v w hv hw => ?_
    obtain ⟨d1, g1, q1⟩ := ra.getV hv
    obtain ⟨d2, g2, q2⟩ := rb.getV hw
    exact ih i d1 d2 g1 g2 (q1.top ex) (q2.top ex)
  | @lst n xs ys e hl hh ih =>
    rintro x y ⟨a, vs, rfl, sa, ra⟩ ⟨b, ws, rfl, sb, rb⟩
    have l1 := ra.length
    have l2 := rb.length
    rw [← l1]
    refine .lst (SqL.of sa) (SqL.of sb) (by omega) fun i v w hv hw => ?_
    obtain ⟨d1, g1, q1⟩ := ra.getV hv
    obtain ⟨d2, g2, q2⟩ := rb.getV hw
    exact ih i d1 d2 g1 g2 (q1.top ex) (q2.top ex)
  | @lstL n xs ys hl =>
    rintro x y ⟨a, vs, rfl, sa, ra⟩ ⟨b, ws, rfl, sb, rb⟩
    have l1 := ra.length
    have l2 := rb.length
    exact .lstL (SqL.of sa) (SqL.of sb) (by omega)
  | @dk n ka kb e nd hh ih =>
    rintro x y ⟨a, vs, rfl, sa, ra⟩ ⟨b, ws, rfl, sb, rb⟩
    have l1 := congrArg List.length (repK_ks ra)
    have l2 := congrArg List.length (repK_ks rb)
    rw [List.length_map, List.length_map] at l1 l2
    rw [← l1, ← l2, ← repK_all rb ra]
    refine .dk sa sb (by rw [repK_ks ra]; exact nd) fun k v w hv hw => ?_
    obtain ⟨d1, g1, q1⟩ := repK_mem ra hv
    rcases rb.get (k := k) with ⟨_, z⟩ | ⟨d2, w', q2, q3, q4⟩
    · rw [hw] at z; cases z
    · rw [hw] at q3
      cases q3
      exact ih k d1 d2 g1 q2 (q1.top ex) (q4.top ex)
end
section
variable {X : Cx} {b : Bg} {K : PySem.W.Frag}
end
/-- a thing and itself -/
def okG : Nat → D → Bool
  | _, .non => true
  | _, .bl _ => true
  | _, .int _ => true
  | _, .str _ => true
  | n + 1, .lst xs => xs.all (okG n)
  | n + 1, .tup xs => xs.all (okG n)
  | n + 1, .dk kvs => decide (kvs.map (·.1)).Nodup && kvs.all fun p => okG n p.2
  | _, _ => false
theorem valD_nodup : ∀ {ks : List (Key × D)} {k : Key} {v : D}, (ks.map (·.1)).Nodup → (k, v) ∈ ks → valD ks k = some v
  | p :: r, k, v, nd, h => by
    rw [List.map_cons, List.nodup_cons] at nd
    unfold valD
    rw [List.find?_cons]
    rcases List.mem_cons.mp h with rfl | h
    · simp
    · have ne : ¬ p.1 = k := fun z => nd.1 (List.mem_map.mpr ⟨(k, v), h, z.symm⟩)
      rw [decide_eq_false ne]
      exact valD_nodup nd.2 h
theorem all_T (n : Nat) : ((List.range n).all fun _ => true) = true := List.all_eq_true.mpr fun _ _ => rfl
theorem EqD.self : ∀ {n : Nat} {d : D}, okG n d = true → EqD n d d true
  | n, .non, _ => .fl rfl
  | n, .bl c, _ => by have z : EqD n (.bl c) (.bl c) (decide (c = c)) := .fl rfl
                      rwa [decide_eq_true rfl] at z
  | n, .int c, _ => by have z : EqD n (.int c) (.int c) (decide (c = c)) := .fl rfl
                       rwa [decide_eq_true rfl] at z
  | n, .str c, _ => by have z : EqD n (.str c) (.str c) (decide (c = c)) := .fl rfl
                       rwa [decide_eq_true rfl] at z
  | n + 1, .lst xs, h => by
    have all : ∀ x ∈ xs, okG n x = true := by
      have h : xs.all (okG n) = true := h
      exact List.all_eq_true.mp h
    have z := EqD.lst (n := n) (xs := xs) (ys := xs) (e := fun _ => true) rfl fun i x y hx hy => by
      rw [hx] at hy
      cases hy
      exact EqD.self (all x (List.mem_of_getElem? hx))
    simpa [all_T] using z
  | n + 1, .tup xs, h => by
    have all : ∀ x ∈ xs, okG n x = true := by
      have h : xs.all (okG n) = true := h
      exact List.all_eq_true.mp h
    have z := EqD.tup (n := n) (xs := xs) (ys := xs) (e := fun _ => true) fun i x y hx hy => by
      rw [hx] at hy
      cases hy
      exact EqD.self (all x (List.mem_of_getElem? hx))
    simpa [all_T] using z
  | n + 1, .dk kvs, h => by
    have h : (decide (kvs.map (·.1)).Nodup && kvs.all fun p => okG n p.2) = true := h
    rw [Bool.and_eq_true, decide_eq_true_iff] at h
    obtain ⟨nd, h⟩ := h
    have all := List.all_eq_true.mp h
    have z := EqD.dk (n := n) (ka := kvs) (kb := kvs) (e := fun _ => true) nd fun k v y hv hy => by
      rw [valD_nodup nd hv] at hy
      cases hy
      exact EqD.self (all (k, v) hv)
    have e : (kvs.all fun p => (valD kvs p.1).isSome && true) = true := by
      rw [List.all_eq_true]
      rintro ⟨k, v⟩ hm
      show ((valD kvs k).isSome && true) = true
      rw [valD_nodup nd hm]; rfl
    rw [e] at z
    simpa using z
  | 0, .lst _, h => by cases h
  | 0, .tup _, h => by cases h
  | 0, .dk _, h => by cases h
  | 0, .obj _ _, h => by cases h
  | _ + 1, .obj _ _, h => by cases h
  | 0, .fn _, h => by cases h
  | _ + 1, .fn _, h => by cases h
  | 0, .exc _ _, h => by cases h
  | _ + 1, .exc _ _, h => by cases h
  | 0, .tabl _ _, h => by cases h
  | _ + 1, .tabl _ _, h => by cases h
end DL
namespace DL
open PySem L2 PyProof.Rows
/-! ### x, y = a, c where x or y is seen by an inner def: through a tuple that nobody keeps -/
section
variable {X : Cx} {b : Bg}
end
end DL
/-! ### own error classes under LookupError -/
namespace PySem
namespace DLX
open PySem.W PySem.Calls PyProof.Rows PySem.HandSPX PySem.OEX Builtin Builtin.ObjectAttr
def leTail : List Value := [.type "LookupError", .type "Exception", .type "BaseException", .type "object"]
/-- own classes ahead of LookupError -/
def LeMro (l : List Value) : Prop := ∃ cs : List Addr, l = cs.map Value.ref ++ leTail
theorem le_has (Y : String) : ∀ cs : List Addr, (cs.map Value.ref ++ leTail).contains (.type Y) = leTail.contains (.type Y)
  | [] => rfl
  | c :: cs => by
    rw [List.map_cons, List.cons_append, List.contains_cons, le_has Y cs]
    rfl
theorem le_pass (self : Value) : ∀ cs : List Addr, refuseLoop self "__setattr__" (cs.map Value.ref ++ leTail) = pure ()
  | [] => F.store_LookupError.passes self
  | c :: cs => by
    rw [List.map_cons, List.cons_append, refuseLoop_ref]
    exact le_pass self cs
section
variable {prog : Program} {w : World} {A : Around} {R : Result → Shared → Prop} {hp : Heap} {gs : Array GenState} {dr : Drawn} {tk : Nat} {os : OsState} {K : W.Frag} {f : Str} {tf : Tok} {y : Value} {a C : Addr} {fields : Array Value} {info : ClassData}
/-- the first field of a fresh exception -/
theorem le_first (KX : K.In hp) (at_ : hp.get? a = some { cls := .ref C, data := .fields fields }) (inf : W.clsIn K C = some info) (le : LeMro info.mro) (dct : info.hasDict = true) (noA : W.findIn K (.ref C) f = some none)
    (fin : ∀ h' t' dx, (∀ b o, b ≠ a → hp.get? b = some o → h'.get? b = some o) → hp.objs.size ≤ dx → dx ≠ a → h'.get? a = some { cls := .ref C, dict := some dx, data := .fields fields } →
      h'.Ns1 dx (fun z => if z = f then some y else none) → R (.ok (.ret .none)) ⟨h', gs, dr, t', os⟩) :
    codeAny (model prog w) A (.call (.builtin "object.__setattr__") ⟨[.ref a, .str f tf, y], []⟩) R ⟨hp, gs, dr, tk, os⟩ := by
  obtain ⟨cs, hcs⟩ := le
  have inst : W.InstAt hp a { cls := .ref C, data := .fields fields } C none := ⟨at_, rfl, rfl, trivial⟩
  have full : info.mro.isEmpty = false := by rw [hcs]; cases cs <;> rfl
  have objIn : info.mro.contains (.type "object") = true := by rw [hcs, le_has]; decide +kernel
  have fresh : a ≠ hp.objs.size := Nat.ne_of_lt (Heap.lt_size at_)
  have isObj : W.Looks (model prog w) hp (isInstance (.ref a) (.type "object")) true := inst.type.andThen (W.looks_mroIn KX (by unfold W.mroIn; rw [inf, Option.bind_some, if_neg (by rw [full]; decide), objIn]))
  refine codeAny_call_builtin F.store_object.slot.plain F.store_object.entry (@W.check_slot (model prog w) _ _ ⟨hp, gs, dr, tk, os⟩ "object.__setattr__" "object" "__setattr__" (.ref a) [.str f tf, y] [] _ F.store_object.kind F.store_object.split isObj (F.store_object.args (.ref a) (.str f tf) y) ?_)
  have mroL : W.Looks (model prog w) hp (mroOf (.ref C)) info.mro := (W.looks_clsIn KX inf).andThen .now
  have takerL : W.Looks (model prog w) hp (storeTaker? none) none := .now
  have infL : W.Looks (model prog w) hp (classData C) info := W.looks_clsIn KX inf
  rw [W.osa_eq, refuse_eq]
  refine wpAny_bind (wpAny_bind (inst.type.at (wpAny_bind (mroL.at ?_))))
  rw [hcs, le_pass]
  refine wpAny_pure (wpAny_bind (inst.type.at (wpAny_bind ((W.looks_findIn KX noA).at (wpAny_bind (takerL.at ?_))))))
  show wpAny _ _ (storeInOwnDict (.ref a) (.ref C) (.str f tf) f y false) _ _ _
  obtain ⟨i1, i2, i3, i4, i5, i6, i7, i8, i9, i10, i11⟩ := info
  dsimp only at dct
  subst dct
  unfold storeInOwnDict ownDictForStores
  repeat (first | with_reducible refine store_in_new ?_ ?_ | with_reducible refine wpAny_loadPart_at at_ ?_ | with_reducible refine infL.at ?_ | wp_step)
  · exact ⟨_, #[], _, (Heap.get?_update_ne _ _ _ _ fresh.symm).trans (Heap.get?_push_at rfl rfl), rfl, fun e he => absurd he (by simp), fun _ => rfl⟩
  · intro h' t' ns1 same
    have at2 : (hp.push { cls := .type "dict", data := .dict #[] }).get? a = some { cls := .ref C, data := .fields fields } := Heap.get?_push_of_some _ at_
    refine fin h' t' hp.objs.size (fun b o nb ob => ?_) (Nat.le_refl _) fresh.symm ?_ ns1
    · exact (same.2 b (Nat.ne_of_lt (Heap.lt_size ob))).trans ((Heap.get?_update_ne _ _ _ _ nb).trans (Heap.get?_push_of_some _ ob))
    · exact (same.2 a fresh).trans (Heap.get?_update_self _ at2 rfl)
/-- a further field -/
theorem le_more {dx : Addr} {mA : Str → Option Value} {names : List Str} (KX : K.In hp) (at_ : hp.get? a = some { cls := .ref C, dict := some dx, data := .fields fields }) (ns : hp.Ns1 dx mA) (wi : Within mA names) (few : names.length ≤ 1000) (inf : W.clsIn K C = some info) (le : LeMro info.mro) (dct : info.hasDict = true)
    (noA : W.findIn K (.ref C) f = some none) (fin : ∀ h' t', (∀ b o, b ≠ dx → hp.get? b = some o → h'.get? b = some o) → h'.Ns1 dx (fun z => if z = f then some y else mA z) → R (.ok (.ret .none)) ⟨h', gs, dr, t', os⟩) :
    codeAny (model prog w) A (.call (.builtin "object.__setattr__") ⟨[.ref a, .str f tf, y], []⟩) R ⟨hp, gs, dr, tk, os⟩ := by
  obtain ⟨cs, hcs⟩ := le
  obtain ⟨od, _, _, atD, _, _⟩ := ns.count wi
  have inst : W.InstAt hp a { cls := .ref C, dict := some dx, data := .fields fields } C (some od) := ⟨at_, rfl, rfl, atD⟩
  have full : info.mro.isEmpty = false := by rw [hcs]; cases cs <;> rfl
  have objIn : info.mro.contains (.type "object") = true := by rw [hcs, le_has]; decide +kernel
  have isObj : W.Looks (model prog w) hp (isInstance (.ref a) (.type "object")) true := inst.type.andThen (W.looks_mroIn KX (by unfold W.mroIn; rw [inf, Option.bind_some, if_neg (by rw [full]; decide), objIn]))
  refine codeAny_call_builtin F.store_object.slot.plain F.store_object.entry (@W.check_slot (model prog w) _ _ ⟨hp, gs, dr, tk, os⟩ "object.__setattr__" "object" "__setattr__" (.ref a) [.str f tf, y] [] _ F.store_object.kind F.store_object.split isObj (F.store_object.args (.ref a) (.str f tf) y) ?_)
  have mroL : W.Looks (model prog w) hp (mroOf (.ref C)) info.mro := (W.looks_clsIn KX inf).andThen .now
  have takerL : W.Looks (model prog w) hp (storeTaker? none) none := .now
  have infL : W.Looks (model prog w) hp (classData C) info := W.looks_clsIn KX inf
  rw [W.osa_eq, refuse_eq]
  refine wpAny_bind (wpAny_bind (inst.type.at (wpAny_bind (mroL.at ?_))))
  rw [hcs, le_pass]
  refine wpAny_pure (wpAny_bind (inst.type.at (wpAny_bind ((W.looks_findIn KX noA).at (wpAny_bind (takerL.at ?_))))))
  show wpAny _ _ (storeInOwnDict (.ref a) (.ref C) (.str f tf) f y false) _ _ _
  obtain ⟨i1, i2, i3, i4, i5, i6, i7, i8, i9, i10, i11⟩ := info
  dsimp only at dct
  subst dct
  unfold storeInOwnDict ownDictForStores
  repeat (first | with_reducible refine store_in_old ns wi few ?_ | with_reducible refine wpAny_loadPart_at at_ ?_ | with_reducible refine infL.at ?_ | wp_step)
  intro h' t' ns1 same
  exact fin h' t' (fun b o nb ob => (same.2 b nb).trans ob) ns1
end
end DLX
end PySem
namespace DL
open PySem L2 PyProof.Rows PySem.DLX
structure OexL (K : PySem.W.Frag) (C : Addr) : Prop where
  cls : ∃ nm q N bs bm sn sub ab col dd k0 k1 k2 k3 k5, K.lookup C = some (excClassObj nm q C N bs bm true sn sub ab col dd k0 k1 k2 k3 k5 "LookupError.__new__") ∧ LeMro bm
  sa : PySem.W.findIn K (.ref C) "__setattr__" = some (some (.builtin "object.__setattr__"))
  ex : PySem.W.subIn K (.ref C) (.type "BaseException") = some true
  ty : PySem.W.typeIn K (.ref C) = some (.type "type")
  kp : PySem.W.keepIn K (.ref C) = true
section
variable {X : Cx} {pins : List (Addr × Obj)} {σ : L2.St} {H : Hp} {s : Shared} {a C dx : Addr} {f : Str} {y : V} {u : Value} {fs : List (Str × V)} {Q : Unit → Shared → Prop} {E : Value → Shared → Prop} {A : Around}
theorem le_new (T : OexL X.K C) (I : Inv X pins σ H s) (ea : H a = some (exo a C none)) (noA : PySem.W.findIn X.K (.ref C) f = some none) (ry : RelV y u)
    (fin : ∀ dx s', H dx = none → dx ≠ a → Inv X pins σ (L2.upd (L2.upd H dx (exd dx [(f, y)])) a (exo a C (some dx))) s' → Q () s') : wpAny (model X.prog X.w) A (setAttr (.ref a) f u) Q E s := by
  obtain ⟨nm, q, N, bs, bm, sn, sub, ab, col, dd, k0, k1, k2, k3, k5, atC, cs, hbm⟩ := T.cls
  have inf : PySem.W.clsIn X.K C = some { name := nm, bases := bs, mro := .ref C :: bm, ns := N, qualname := q, hasDict := true, slotNames := sn, subclasses := sub, abstract := ab, collection := col, hasDel := false } := by
    unfold PySem.W.clsIn
    rw [atC] <;> rfl
  obtain ⟨t1, at_⟩ := exo_at I.hok ea
  obtain ⟨hp, gs, dr, tk, os⟩ := s
  refine PySem.W.set_plain I.kIn (ox := ⟨.ref C, none, .fields #[.ref t1, .none, .none, .none, .bool false, .none], #[]⟩) (od := none) ⟨at_, rfl, rfl, trivial⟩ T.sa ?_
  refine le_first I.kIn at_ inf ⟨C :: cs, by rw [hbm]; rfl⟩ rfl noA (fun h' tk' dx keep big ne hx hn => ?_)
  have nd : H dx = none := I.hok.fresh big
  have offD : ∀ {b : Addr} {o : Obj}, hp.get? b = some o → b ≠ dx := fun {b o} z => Nat.ne_of_lt (Nat.lt_of_lt_of_le (Heap.lt_size z) big)
  have offA : ∀ {b : Addr}, H b = none → b ≠ a := fun {b} n z => by
    subst z
    rw [ea] at n
    cases n
  have un : Un X.fs [] H (L2.upd (L2.upd H dx (exd dx [(f, y)])) a (exo a C (some dx))) hp h' := {
    keep := fun b o z n _ _ => keep b o (offA n) z
    slot := fun b o z n _ _ => ⟨o.slots, keep b o (offA n) z⟩
    free := fun b o z n _ => by
      rw [upd_ne (offA n), upd_ne (offD z)]
      exact n
    there := fun b o z _ => by
      by_cases e : b = a
      · subst e
        exact ⟨_, hx⟩
      · exact ⟨o, keep b o e z⟩
    tups := fun b xs z => by
      rw [upd_ne (at_ne ea z exo_tup), upd_ne (ne_of_none z nd)]
      exact z
    frzs := fun b o v z => by
      rw [upd_ne (at_ne ea z exo_frz), upd_ne (ne_of_none z nd)]
      exact z
    tbls := fun b ps z => ⟨#[], by rw [upd_ne (at_ne ea z exo_tbl), upd_ne (ne_of_none z nd), z]; simp⟩ }
  refine fin dx _ nd ne (I.un (t' := tk') un fun b o z => ?_)
  by_cases e : b = a
  · subst e
    rw [upd_same] at z
    cases z
    exact exo_ok hx
  rw [upd_ne e] at z
  by_cases e2 : b = dx
  · subst e2
    rw [upd_same] at z
    cases z
    exact exd_ok hn (relO_put (fs := []) ry fun g => True.intro)
  rw [upd_ne e2] at z
  refine (I.hok b o z).stay (fun c v hc w => keep c v (?_ : c ≠ a) w) (fun c hc => ?_) (fun c xs hc => ?_)
  · rcases hc with rfl | hc
    · exact e
    · exact at_ne ea hc exo_own
  · rw [upd_ne (at_ne ea hc exo_own), upd_ne (ne_of_none hc nd)]; exact hc
  · rw [upd_ne (at_ne ea hc exo_tup), upd_ne (ne_of_none hc nd)]; exact hc
theorem le_old (T : OexL X.K C) (I : Inv X pins σ H s) (ea : H a = some (exo a C (some dx))) (ed : H dx = some (exd dx fs)) (few : fs.length ≤ 900) (noA : PySem.W.findIn X.K (.ref C) f = some none) (ry : RelV y u)
    (fin : ∀ s', Inv X pins σ (L2.upd H dx (exd dx ((f, y) :: fs))) s' → Q () s') : wpAny (model X.prog X.w) A (setAttr (.ref a) f u) Q E s := by
  obtain ⟨nm, q, N, bs, bm, sn, sub, ab, col, dd, k0, k1, k2, k3, k5, atC, cs, hbm⟩ := T.cls
  have inf : PySem.W.clsIn X.K C = some { name := nm, bases := bs, mro := .ref C :: bm, ns := N, qualname := q, hasDict := true, slotNames := sn, subclasses := sub, abstract := ab, collection := col, hasDel := false } := by
    unfold PySem.W.clsIn
    rw [atC] <;> rfl
  obtain ⟨t1, at_⟩ := exo_at I.hok ea
  obtain ⟨mA, hns, rel⟩ := exd_at I.hok ed
  have wi := within_of rel
  obtain ⟨hp, gs, dr, tk, os⟩ := s
  obtain ⟨od, _, _, atD, _, _⟩ := hns.count wi
  refine PySem.W.set_plain I.kIn (ox := ⟨.ref C, some dx, .fields #[.ref t1, .none, .none, .none, .bool false, .none], #[]⟩) (od := some od) ⟨at_, rfl, rfl, atD⟩ T.sa ?_
  refine le_more I.kIn at_ hns wi (by rw [List.length_map]; omega) inf ⟨C :: cs, by rw [hbm]; rfl⟩ rfl noA (fun h' tk' keep hn => ?_)
  obtain ⟨o, es, ep, e1, e2⟩ := id hn
  exact fin _ (I.write (t' := tk') (x := dx) (e := dx) (o := exd dx ((f, y) :: fs)) (by rw [ed]; exact True.intro) (.inl rfl) keep ⟨o, e1⟩ (exd_ok hn (relO_put ry rel)))
end
/-- self.f = e in such an __init__ -/
def tOstL (K : PySem.W.Frag) (f : Str) (to te : TE) : TS := fun D σ H => te σ H fun y H1 => to σ H1 fun x H2 => ∃ a C : Addr, x = .ref a ∧ OexL K C ∧ PySem.W.findIn K (.ref C) f = some none ∧
  ((H2 a = some (exo a C none) ∧ ∀ dx, H2 dx = none → dx ≠ a → D.nx σ (L2.upd (L2.upd H2 dx (exd dx [(f, y)])) a (exo a C (some dx)))) ∨
    ∃ (dx : Addr) (fs : List (Str × V)), H2 a = some (exo a C (some dx)) ∧ H2 dx = some (exd dx fs) ∧ fs.length ≤ 900 ∧ D.nx σ (L2.upd H2 dx (exd dx ((f, y) :: fs))))
theorem ps_ostL {X : Cx} {o e : Expr} {to te : TE} {f : Str} {p' pos : Pos} (ho : PE X o to) (he : PE X e te) (hs : swapsWith e (some (.Attribute o f p')) pos.line X.env = pure false := by rfl) : PS X (.Assign [.Attribute o f p'] e pos) (tOstL X.K f to te) := by
  refine ⟨fun pins s σ H D I h => plainObj_wpAny_Assign_Attribute (thn (he.run pins s σ H _ I h) fun v s1 ⟨y, H1, I1, r1, q1⟩ => ?_) hs⟩
  refine thn (ho.run pins s1 σ H1 _ I1 q1) fun u s2 ⟨x, H2, I2, r2, a, C, ex, T, noA, q⟩ => ?_
  subst ex
  cases r2
  rcases q with ⟨ea, q⟩ | ⟨dx, fs, ea, ed, few, q⟩
  · exact le_new T I2 ea noA r1 fun dx s' n ne J => ⟨σ, _, J, q dx n ne⟩
  · exact le_old T I2 ea ed few noA r1 fun s' J => ⟨σ, _, J, q⟩
/-- C(e, ..) -/
theorem pmk_oexL {X : Cx} {CX : CXT} {x : Str} {C fI : Addr} {k : Nat} {fd : FuncData} {ps : List Str} {sp : Sp} {e : Expr} {es : List Expr} {ta : TA} {p pos : Pos} (T : OexL X.K C) (iC : PySem.W.findIn X.K (.ref C) "__init__" = some (some (.ref fI))) (tI : PySem.W.typeIn X.K (.ref fI) = some (.type "function"))
    (F1 : FnOk X.prog X.w X.K X.mg X.base CX k fI fd ps sp) (hr : Room (k + 1) X.A) (hb : Binds X.K fd ps []) (hx : Passes CX X (fun _ _ _ => False)) (hg : Gl X x) (hm : X.mg x = some (.ref C)) (ha : PA X (e :: es) ta)
    (hdb : (x == ("__debug__" : Str)) = false) (he : starEach (e :: es) X.env = (false, eval e X.env) :: starEach es X.env) (hpl : (backTo pos (starEach es X.env)).any (·.1) = false) : PMk X (.Call (.Name x p) (e :: es) [] pos) (tMkO C sp [] ta) := by
  intro pins s σ H Q I h
  obtain ⟨nm, q, N, bs, bm, sn, sub, ab, col, dd, k0, k1, k2, k3, k5, atC, cs, hbm⟩ := T.cls
  refine wpAny_Call_Name_kw (ld_glob I hg hm (PySem.W.callWith_K (h₀ := X.base) I.ok.mod.kin T.kp (thn (ha.run pos pins s σ H _ I h) fun us s1 hh => ?_) he hpl) hdb)
  obtain ⟨vs, H1, I1, r1, hz, q1⟩ := hh
  refine ⟨I1.kIn, ?_⟩
  show wpAny _ _ (call (.ref C) us) _ _ _
  obtain ⟨hp, gs, dr, tk, os⟩ := s1
  have z1 : hp.objs.size ≤ hp.objs.size + 1 := Nat.le_succ _
  have hq := q1 (hp.objs.size + 1) (I1.hok.fresh z1)
  have ext : ∀ c o, hp.get? c = some o → ((hp.push (PySem.W.kdv_tup us)).push (PySem.HandSPX.excO C hp.objs.size)).get? c = some o := fun c o z => Heap.get?_push_of_some _ (Heap.get?_push_of_some _ z)
  have at_ : ((hp.push (PySem.W.kdv_tup us)).push (PySem.HandSPX.excO C hp.objs.size)).get? (hp.objs.size + 1) = some (PySem.HandSPX.excO C hp.objs.size) := by heap_get
  have J : Inv X pins σ (L2.upd H1 (hp.objs.size + 1) (exo (hp.objs.size + 1) C none)) ⟨(hp.push (PySem.W.kdv_tup us)).push (PySem.HandSPX.excO C hp.objs.size), gs, dr, tk, os⟩ := I1.laid (t' := tk) (a := hp.objs.size + 1) (o := exo (hp.objs.size + 1) C none) ext z1 (exo_ok at_)
  have rv : Vals (V.ref (hp.objs.size + 1) :: (vs ++ [])) (Value.ref (hp.objs.size + 1) :: (us ++ [])) := by
    rw [List.append_nil, List.append_nil]
    exact .cons rfl r1
  have len1 : (Value.ref (hp.objs.size + 1) :: us ++ []).length = ps.length := by
    have z := rv.length
    rw [F1.len _ _ _ _ hq] at z
    exact z.symm
  have bound := hb ⟨(hp.push (PySem.W.kdv_tup us)).push (PySem.HandSPX.excO C hp.objs.size), gs, dr, tk, os⟩ (Value.ref (hp.objs.size + 1) :: us) J.kIn len1
  rw [List.cons_append] at bound
  have few : us.length ≤ sizeLine := by
    rw [← r1.length, sizeLine_eq]
    omega
  refine wpAny_call (PySem.HandSPX.call_own F.excBase_LookupError (fun Y => by rw [hbm]; exact le_has Y cs) (I1.kIn _ _ atC) (PySem.W.looks_findIn I1.kIn iC) (fun self => PySem.W.bind_fn I1.kIn self tI) few
    (codeAny_mono (F1.run _ X.stack _ _ ⟨Value.ref (hp.objs.size + 1) :: us, []⟩ (Value.ref (hp.objs.size + 1) :: (us ++ [])) _ _ (fun _ _ _ => False) (hr.make C us []) (J.env0.make C us []) bound rv hq) fun r s' hr' => ?_))
  cases r with
  | error er => exact hx pins σ _ _ er s' J hr'
  | ok fl =>
    cases fl with
    | ret u =>
      obtain ⟨v, H2, os2, bare2, un2, hok2, rvv, ev, d, fs, ea, ed, hd1, q2⟩ := hr'
      subst ev
      obtain ⟨h2, g2, d2, t2, os'⟩ := s'
      exact ⟨rvv, mk_end (raises_own T.ex T.ty) I1 z1 ext un2 hok2 os2 bare2 ea ed hd1 q2⟩
    | next => exact hr'.elim
    | brk => exact hr'.elim
    | cont => exact hr'.elim
structure KnownEL (P : Program) (w : World) (K : PySem.W.Frag) (mg : Str → Option Value) (base : Heap) (x : Str) (C : Addr) (k : Nat) (ps : List Str) (fE : List D → Option (List (Str × D))) : Prop where
  ex : ∃ fI fd, FnOk P w K mg base CX0 k fI fd ps (spE K C fE) ∧ OexL K C ∧ PySem.W.findIn K (.ref C) "__init__" = some (some (.ref fI)) ∧ PySem.W.typeIn K (.ref fI) = some (.type "function") ∧ Binds K fd ps [] ∧ mg x = some (.ref C)
theorem ds_raiseL {X : Cx} {b : Bg} {x : Str} {C : Addr} {k : Nat} {ps : List Str} {fE : List D → Option (List (Str × D))} {a : Expr} {es : List Expr} {ua : DA} {p cpos pos : Pos} (tk : L2.Takes X b.W) (F : KnownEL X.prog X.w X.K X.mg X.base x C k ps fE) (hr : Room (k + 1) X.A) (ha : PDA X b (a :: es) ua) (hg : Gl X x := by rfl) (hc : X.calm = true := by rfl)
    (hdb : (x == ("__debug__" : Str)) = false := by decide) (he : starEach (a :: es) X.env = (false, eval a X.env) :: starEach es X.env := by rfl) (hpl : (backTo cpos (starEach es X.env)).any (·.1) = false := by rfl) (hi : ∀ F G H, b.inv F G H := by intro _ _ _; exact True.intro) : PDS X b (.Raise (some (.Call (.Name x p) (a :: es) [] cpos)) none pos) (uRaise b.xp C fE ua) := by
  obtain ⟨fI, fd, F1, T, iC, tI, hb, hm⟩ := F
  obtain ⟨t, pa, l⟩ := ha
  exact ⟨_, L2.ps_raise hc tk (pmk_oexL T iC tI F1 hr hb pass0 hg hm pa hdb he hpl), raise_core hi l⟩
section
variable {P : Program} {w : World} {K : PySem.W.Frag} {mg : Str → Option Value} {base : Heap}
theorem fnE2L {qual y ff gg cc : Str} {st : Stmt} {f C : Addr} {fd : FuncData} {k : Nat} {p1 p2 p3 p4 p5 p6 q1 q2 : Pos} {j : Nat} (F : Fun K "__init__" qual st f fd) (S : FnScope ["self", y] ["self", y] (defScope st)) (T : OexL K C) (n1 : PySem.W.findIn K (.ref C) ff = some none) (n2 : PySem.W.findIn K (.ref C) gg = some none) (nfg : (ff == gg) = false)
    (hst : defBody st = [.Assign [.Attribute (.Name "self" p1) ff p2] (.Name y p3) q1, .Assign [.Attribute (.Name "self" p4) gg p5] (.Constant (.str cc) j p6) q2])
    (v0 : Vis (defScope st) "self") (v1 : Vis (defScope st) y) (d0 : (y == ("__debug__" : Str)) = false) (d1 : (y == ("__classdict__" : Str)) = false)
    (hs1 : ∀ (cdv : Value) (A : Around) (outer : List Env) (s : Shared) (H : Hp) (E : XK), swapsWith (.Name y p3) (some (.Attribute (.Name "self" p1) ff p2)) q1.line (cxOf CX0 P w K mg base ["self", y] qual (defScope st) f cdv A outer s H E).nox.env = pure false)
    (hs2 : ∀ (cdv : Value) (A : Around) (outer : List Env) (s : Shared) (H : Hp) (E : XK), swapsWith (.Constant (.str cc) j p6) (some (.Attribute (.Name "self" p4) gg p5)) q2.line (cxOf CX0 P w K mg base ["self", y] qual (defScope st) f cdv A outer s H E).nox.env = pure false) :
    FnOk P w K mg base CX0 (k + 1) f fd ["self", y] (spE K C (fE2 ff gg cc)) := by
  refine F.ok S (fun vs H Q E h => ?_) (fun cdv A outer s H vs Q E hr h => ?_)
  · obtain ⟨a, G, vs', ds, out, rfl, _, hds, hf, _⟩ := h
    match ds, hf with
    | [x], _ => rw [List.length_cons, hds.length]; rfl
  · obtain ⟨a, G, vs', ds, out, rfl, ha, hds, hf, kk⟩ := h
    match ds, hf with
    | [x], hf =>
      cases hf
      obtain ⟨v, r, rfl, hv, hr⟩ := hds
      cases hr
      rw [hst]
      refine ⟨_, (pss_cons (ps_ostL (pv 0 rfl v0) (pv 1 rfl v1 d0 d1) (hs1 cdv A outer s H E)) (pss_one (ps_ostL (pv 0 rfl v0) pe_str (hs2 cdv A outer s H E)))), ?_⟩
      refine ⟨v, rfl, .ref a, rfl, a, C, rfl, T, n1, .inl ⟨ha, fun dx hn ne => ?_⟩⟩
      refine ⟨.ref a, rfl, a, C, rfl, T, n2, .inr ⟨dx, _, upd_same, by rw [upd_ne ne]; exact upd_same, by show 1 ≤ 900; decide, ?_⟩⟩
      refine kk dx [(gg, .str cc), (ff, v)] _ hn (by rw [upd_ne (Ne.symm ne)]; exact upd_same) upd_same (fun c h1 h2 => by rw [upd_ne h2, upd_ne h1, upd_ne h2]) fun f z hl => ?_
      by_cases e : (f == gg) = true
      · have e' : f = gg := by simpa using e
        subst e'
        simp at hl
        subst hl
        exact ⟨.str cc, by simp, rfl⟩
      · have e1 : (f == gg) = false := by simpa using e
        simp only [List.lookup, e1] at hl ⊢
        by_cases e2 : (f == ff) = true
        · rw [e2] at hl ⊢
          cases hl
          exact ⟨v, rfl, hv⟩
        · have e3 : (f == ff) = false := by simpa using e2
          rw [e3] at hl; cases hl
end
end DL
namespace DL
open PySem L2 PyProof.Rows PySem.Spec LamX
/-! ### x(lambda a=0: body): the parameter is not looked at -/
/-- captured names, globals, and the one parameter p0 -/
structure LamD (p0 : Str) (sc scope : Scope) : Prop where
  kind : scope.kind = .function
  co : scope.isCoroutine = false
  gen : scope.isGenerator = false
  own : ∀ y ∈ scope.names, (y.2 = .local → y.1 = p0) ∧ y.2 ≠ .cell
  free : ∀ y ∈ scope.names, y.2 = .free → sc.names.lookup y.1 = some .cell ∨ sc.names.lookup y.1 = some .free
  here : scope.names.lookup p0 = some .local
section
variable {X : Cx} {pins : List (Addr × Obj)} {σ : L2.St} {H : Hp} {s : Shared}
theorem LamD.has {p0 : Str} {scope : Scope} (L : LamD p0 X.env.scope scope) (ok : X.Ok) (y : Str × NameKind) (hy : y ∈ scope.names) (z : y.2 = .free) : ∃ c, X.env.cells.lookup y.1 = some c :=
  ok.has _ ((L.free y hy z).elim (fun k => .inl k) fun k => .inr k)
end
section
variable {X : Cx}
end
section
variable {X : Cx} {b : Bg} {K : PySem.W.Frag}
end
end DL
namespace DL
open PySem L2 PyProof.Rows
/-! ### [..] * n; defs with *args that raise; f(*xs) -/
section
variable {X : Cx} {b : Bg} {K : PySem.W.Frag}
end
structure KnownRX (P : Program) (w : World) (K : PySem.W.Frag) (mg : Str → Option Value) (base : Heap) (x : Str) (k : Nat) (sp : Sp) : Prop where
  ex : ∃ f, FnR P w K mg base (L2.CX P w) k f sp ∧ mg x = some (.ref f) ∧ PySem.W.keepIn K (.ref f) = true
section
variable {X : Cx} {b : Bg}
/-- f(*xs) of a def without raising -/
def asLT2 (P : List D → Prop) : D → Prop
  | .lst xs => P xs
  | .tup xs => P xs
  | _ => False
def uCallS (f : FS) (u : DE) : DE := fun e P => u e (R.keep (asLT2 fun xs => f xs P))
end
section
variable {K : PySem.W.Frag} {P : Program} {w : World} {mg : Str → Option Value} {base : Heap}
end
theorem e_aslt21 {xs : List D} {P : List D → Prop} : asLT2 P (.lst xs) = P xs := rfl
theorem e_aslt22 {xs : List D} {P : List D → Prop} : asLT2 P (.tup xs) = P xs := rfl
end DL
namespace DL
open PySem L2 PyProof.Rows
/-! ### d.pop(k), d owned; arithmetic over what has been popped -/
def dropD (kvs : List (Key × D)) (k : Key) : List (Key × D) := kvs.filter fun kv => decide (kv.1 ≠ k)
theorem RepK.drop {K : PySem.W.Frag} {G : Hp} {k : Key} : ∀ {kvs : List (Key × D)} {vs : List (Key × V)}, RepK K G kvs vs → RepK K G (dropD kvs k) (dropK vs k)
  | [], vs, h => by
    have : vs = [] := h
    subst this
    rfl
  | (k1, d) :: kvs, vs, h => by
    obtain ⟨v, r, rfl, hv, hr⟩ := h
    have ih := RepK.drop (k := k) hr
    unfold dropD dropK at ih ⊢
    rw [List.filter_cons, List.filter_cons]
    by_cases e : k1 = k
    · rw [if_neg (by simp [e]), if_neg (by simp [e])]
      exact ih
    · rw [if_pos (by simp [e]), if_pos (by simp [e])]
      exact ⟨v, _, rfl, hv, ih⟩
section
variable {X : Cx} {b : Bg} {K : PySem.W.Frag}
def uPopD (i : Nat) (uk : DE) : DX := fun e P => (∃ q kvs, nth e i = .own q (.dk kvs)) ∧ uk e fun rk => ∃ (k : Key) (q : Option Addr) (kvs : List (Key × D)) (d : D), keyD rk.look = some k ∧ nth e i = .own q (.dk kvs) ∧ valD kvs k = some d ∧ P (.sh d) (e.set i (.own q (.dk (dropD kvs k))))
def uBinR (f : D → D → (R → Prop) → Prop) (u1 : DE) (u2 : DX) : DX := fun e P => u1 e fun r1 => ∃ i : Int, r1 = .sh (.int i) ∧ u2 e fun r2 e' => ∃ j : Int, r2 = .sh (.int j) ∧ f (.int i) (.int j) fun r => P r e'
def uBinL (f : D → D → (R → Prop) → Prop) (u1 : DX) (u2 : DE) : DX := fun e P => u1 e fun r1 e' => ∃ i : Int, r1 = .sh (.int i) ∧ u2 e' fun r2 => f (.int i) r2.look fun r => P r e'
end
end DL
namespace DL
open PySem PySem.Spec L2 PyProof.Rows
/-! ### x = {.. for ..} in a def: the comprehension stands in the statement -/
section
variable {X : Cx} {b : Bg} {K : PySem.W.Frag}
end
end DL
namespace DL
open PySem PySem.Spec L2 PyProof.Rows
/-! ### sum(d.values()), str(int), f-strings -/
section
variable {X : Cx} {b : Bg} {K : PySem.W.Frag}
def uSumV (u : DE) : DE := fun e P => u e fun r => ∃ (kvs : List (Key × D)) (ns : List Int), r.look = .dk kvs ∧ kvs.map (·.2) = ns.map D.int ∧ P (.sh (.int ns.sum))
/-- str(n) -/
def fStrI (d : D) (P : R → Prop) : Prop := ∃ i : Int, d = .int i ∧ i.natAbs.log2 < 1920 ∧ P (.sh (.str (toString i)))
/-- f-strings -/
def uFmt (u : DE) : DE := fun e P => u e fun r => (∃ y : Str, r.look = .str y ∧ y.length ≤ 1000000 ∧ P (.sh (.str y))) ∨ ∃ i : Int, r.look = .int i ∧ i.natAbs.log2 < 1920 ∧ P (.sh (.str (toString i)))
inductive PDJ (X : Cx) (b : Bg) : List Expr → List DE → Prop where
  | nil : PDJ X b [] []
  | cons {e : Expr} {u : DE} {es : List Expr} {us : List DE} (h : PD X b e u) (r : PDJ X b es us) : PDJ X b (e :: es) (u :: us)
def uJs : List DE → Str → List Sl → (Str → Prop) → Prop
  | [], acc, _, P => P acc
  | u :: us, acc, e, P => u e fun r => ∃ y : Str, r.look = .str y ∧ (acc ++ y).length ≤ 1000000 ∧ uJs us (acc ++ y) e P
def uJoined (us : List DE) : DE := fun e P => uJs us Str.empty e fun out => P (.sh (.str out))
end
theorem e_js0 {acc : Str} {e : List Sl} {P : Str → Prop} : uJs [] acc e P = P acc := rfl
theorem e_js1 {u : DE} {us : List DE} {acc : Str} {e : List Sl} {P : Str → Prop} : uJs (u :: us) acc e P = u e fun r => ∃ y : Str, r.look = .str y ∧ (acc ++ y).length ≤ 1000000 ∧ uJs us (acc ++ y) e P := rfl
end DL
namespace DL
open PySem PySem.Spec L2 PyProof.Rows
/-! ### properties; repr(x) and len(x) of an own class -/
structure KnownP (P : Program) (w : World) (K : PySem.W.Frag) (mg : Str → Option Value) (base : Heap) (C : Addr) (f : Str) (k : Nat) (sp : Sp) : Prop where
  ex : ∃ p g fd, FnOk P w K mg base CX0 k g fd ["self"] sp ∧ PropOf K C f p g ∧ Cls K C ∧ Binds K fd ["self"] []
structure HereP (K : PySem.W.Frag) (C : Addr) (m qual : Str) (st : Stmt) : Prop where
  ex : ∃ p f fd, Fun K m qual st f fd ∧ PropOf K C m p f ∧ Binds K fd ["self"] []
section
variable {X : Cx} {b : Bg} {K : PySem.W.Frag}
def uProp (C : Addr) (f : FS) (uo : DE) : DE := fun e P => uo e (R.keep fun d => ∃ fs, d = .obj C fs ∧ f [d] P)
def uBK (f : D → (R → Prop) → Prop) (u : DE) : DE := fun e P => u e (R.keep fun d => f d P)
def fOwnS (C : Addr) (f : FS) (d : D) (P : R → Prop) : Prop := ∃ fs, d = .obj C fs ∧ f [d] fun r => ∃ y : Str, r = .sh (.str y) ∧ P (.sh (.str y))
def fOwnI (C : Addr) (f : FS) (d : D) (P : R → Prop) : Prop := ∃ fs, d = .obj C fs ∧ f [d] fun r => ∃ n : Int, r = .sh (.int n) ∧ (0 ≤ n ∧ n < 2 ^ 63) ∧ P (.sh (.int n))
end
end DL
namespace DL
open PySem PySem.Spec L2 PyProof.Rows
/-! ### clear(); append and clear of a thing that nobody holds -/
section
variable {X : Cx} {b : Bg} {K : PySem.W.Frag}
def uClrD (i : Nat) : DX := fun e P => ∃ q kvs, nth e i = .own q (.dk kvs) ∧ P (.sh .non) (e.set i (.own q (.dk [])))
def uClr (i : Nat) : DX := fun e P => ∃ q xs, nth e i = .own q (.lst xs) ∧ P (.sh .non) (e.set i (.own q (.lst [])))
/-- f(..).append(e): the thing is nobody's -/
def uTmpApp (uo ua : DE) : DE := fun e P => uo e fun r => ∃ xs, r = .ow (.lst xs) ∧ ua e (R.keep fun _ => xs.length < 1000000 ∧ P (.sh .non))
def uTmpClr (uo : DE) : DE := fun e P => uo e fun r => ∃ xs, r = .ow (.lst xs) ∧ P (.sh .non)
end
end DL
namespace DL
open PySem PySem.Spec L2 PyProof.Rows
/-! ### C(x, y) over owned things that stay the caller's -/
abbrev FL := OD → OD → (List (Str × D) → Prop) → Prop
structure KnownIL (P : Program) (w : World) (K : PySem.W.Frag) (mg : Str → Option Value) (base : Heap) (x : Str) (C : Addr) (k : Nat) (ps : List Str) (sp : Sp) : Prop where
  ex : ∃ g fd, FnOk P w K mg base CX0 k g fd ps sp ∧ Mk K C g ∧ mg x = some (.ref C) ∧ Binds K fd ps []
section
variable {K : PySem.W.Frag} {P : Program} {w : World} {mg : Str → Option Value} {base : Heap}
end
section
variable {X : Cx} {b : Bg} {K : PySem.W.Frag}
def uMakeL (C : Addr) (f : FL) (i j : Nat) : DX := fun e P => ∃ q1 o1 q2 o2, nth e i = .own q1 o1 ∧ nth e j = .own q2 o2 ∧ i ≠ j ∧ f o1 o2 fun fs => P (.ow (.obj C fs)) e
end
end DL
namespace DL
open PySem PySem.Spec PySem.Calls L2 PyProof.Rows
/-! ### t[::-1], t a tuple -/
section
variable {prog : Program} {w : World} {A : Around} {E : Value → Shared → Prop} {s : Shared}
end
section
variable {X : Cx} {b : Bg} {K : PySem.W.Frag}
def uRevT (u : DE) : DE := fun e P => u e fun r => ∃ xs, r.look = .tup xs ∧ P (.sh (.tup xs.reverse))
end
end DL
namespace DL
open PySem PySem.Spec L2 PyProof.Rows
/-! ### a == b, both of an own class with __eq__ -/
section
variable {X : Cx} {b : Bg} {K : PySem.W.Frag}
end
end DL
/-! ### sets of tuples of numbers, of any length; sorted of one -/
namespace SM
open PySem PySem.Spec PyProof.Rows L2
section
variable {P : Program} {w : World} {A : Around} {E : Value → Shared → Prop} {s : Shared}
end
/-! the order of tuples -/
section
variable {prog : Program} {w : World} {A : Around} {E : Value → Shared → Prop} {s : Shared} {Q : Bool → Shared → Prop}
end
section
variable {P : Program} {w : World} {A : Around} {E : Value → Shared → Prop} {s : Shared}
end
section
variable {X : Cx}
end
end SM
namespace DL
open PySem L2 PyProof.Rows
/-! the tuples in order, each once -/
section
variable {X : Cx} {b : Bg} {K : PySem.W.Frag}
end
end DL
/-! ### a != b, both of an own class with __eq__ and no __ne__ -/
namespace PySem.W
open PySem PySem.Calls PyProof.Rows Builtin
section
variable {prog : Program} {w : World} {A : Around} {E : Value → Shared → Prop} {s : Shared} {K : Frag} {x C L f : Addr} {h₀ : Heap} {m : Str → Option Value} {ox : Obj} {od : Option Obj} {b : Value}
end
end PySem.W
namespace DL
open PySem PySem.Spec L2 PyProof.Rows
section
variable {X : Cx} {b : Bg} {K : PySem.W.Frag}
def uOwnB (g : Bool → Bool) (C : Addr) (f : FS) (u1 u2 : DE) : DE := fun e P => u1 e (R.keep fun d1 => u2 e (R.keep fun d2 => (∃ fs1, d1 = .obj C fs1) ∧ (∃ fs2, d2 = .obj C fs2) ∧ f [d1, d2] fun r => ∃ c : Bool, r = .sh (.bl c) ∧ P (.sh (.bl (g c)))))
def uOwnNe (C : Addr) (f : FS) (u1 u2 : DE) : DE := uOwnB not C f u1 u2
end
end DL
/-! ### isinstance(x, C), C an own class, x one of its objects -/
namespace DL
open PySem PySem.Spec L2 PyProof.Rows
section
variable {X : Cx} {b : Bg} {K : PySem.W.Frag}
end
end DL
/-! ### sorted of a list of bools -/
namespace SrtB
open PySem PyProof.Rows Srt SrtO
section
variable {prog : Program} {w : World} {A : Around} {E : Value → Shared → Prop} {s : Shared}
end
end SrtB
namespace DL
open PySem PySem.Spec L2 PyProof.Rows
section
variable {X : Cx} {b : Bg} {K : PySem.W.Frag}
end
end DL
/-! ### {k: v} with one pair; sorted(set(list of tuples of ints)); text[:0:-1] -/
namespace DL
open PySem PySem.Spec L2 PyProof.Rows TS Srt SrtO
section
variable {X : Cx} {b : Bg} {K : PySem.W.Frag}
def vC (c : D) : List Sl → D → Prop := fun _ d => d = c
def uDisp1 (ud uc : List Sl → D → Prop) : DE := fun e P => ∃ (k : Key) (d : D), ud e (kD k) ∧ uc e d ∧ P (.ow (.dk [(k, d)]))
end
end DL
/-! ### xs[:0:-1] -/
namespace DL
open PySem PySem.Spec L2 PyProof.Rows
section
variable {X : Cx} {b : Bg} {K : PySem.W.Frag}
theorem RepL.tail {G : Hp} {xs : List D} {vs : List V} (h : RepL K G xs vs) : RepL K G xs.tail vs.tail := by
  cases xs with
  | nil =>
    have : vs = [] := h
    subst this
    exact h
  | cons x xs =>
    obtain ⟨v, r, rfl, _, hr⟩ := h
    exact hr
def uRevTl (u : DE) : DE := fun e P => u e fun r => ∃ xs, r.look = .lst xs ∧ P (.ow (.lst xs.tail.reverse))
end
end DL
/-! ### x += e of an int -/
namespace DL
open PySem PySem.Spec L2 PyProof.Rows
section
variable {X : Cx} {b : Bg} {K : PySem.W.Frag}
def uAugI (i : Nat) (u : DE) : DS := fun DD e => ∃ n : Int, nth e i = .sh (.int n) ∧ u e fun r => ∃ m : Int, r.look = .int m ∧ DD.nx (e.set i (.sh (.int (n + m))))
end
end DL
/-! ### sorted(set(text)) -/
namespace SM
open PySem PyProof.Rows L2
section
variable {P : Program} {w : World} {A : Around} {E : Value → Shared → Prop} {s : Shared}
end
section
variable {X : Cx}
end
end SM
namespace DL
open PySem L2 PyProof.Rows
section
variable {X : Cx} {b : Bg} {K : PySem.W.Frag}
end
end DL
/-! ### where a static method stands -/
namespace DL
open PySem L2 PyProof.Rows
section
variable {P : Program} {w : World} {K : PySem.W.Frag} {mg : Str → Option Value} {base : Heap}
structure HereSm (K : PySem.W.Frag) (C : Addr) (mc : Value) (m qual : Str) (st : Stmt) (ps : List Str) : Prop where
  ex : ∃ p f fd, Fun K m qual st f fd ∧ SMet K C mc m p f ∧ Binds K fd ps []
theorem hereSm_mk {C : Addr} {mc : Value} {m qual : Str} {st : Stmt} {ps : List Str} {p f : Addr} {rest : List Value} {oc : Value} {od an : Option Addr} {osl : Array (Option Value)} {kV doc pm cdv ct : Value}
    (a : PySem.W.findCls K (.ref C) mc m = some (.get (.builtin "staticmethod.__get__") (.ref p) .none (.ref C))) (r : PySem.W.recIn K p "staticmethod" = some (.ref f :: rest))
    (l : K.lookup f = some ⟨oc, od, .func (PySem.W.fnOf m qual (defArgs st) (defBody st) (defScope st) .none kV doc pm an cdv ct), osl⟩) (c : PySem.W.codeIn K cdv qual = true) (k : PySem.W.keepIn K (.ref f) = true)
    (hb : ∀ (kV doc pm : Value) (an : Option Addr) (cdv ct : Value) (us : List Value), us.length = ps.length → bindArgs (PySem.W.fnOf m qual (defArgs st) (defBody st) (defScope st) .none kV doc pm an cdv ct) ⟨us, []⟩ = pure (ps.zip us)) : HereSm K C mc m qual st ps :=
  ⟨p, f, _, fun_mk l c k, ⟨a, ⟨rest, r⟩⟩, (fun_mk (st := st) l c k).binds hb⟩
end
end DL
/-! ### x in d.values(), all of them texts -/
namespace VIn
open PySem PySem.Calls PyProof.Rows L2 PySem.Spec
section
variable {P : Program} {w : World} {A : Around} {E : Value → Shared → Prop} {s : Shared}
end
end VIn
namespace DL
open PySem PySem.Spec L2 PyProof.Rows
section
variable {X : Cx} {b : Bg} {K : PySem.W.Frag}
def uInVal (neg : Bool) (u1 u2 : DE) : DE := fun e P => u1 e fun r1 => u2 e fun r2 => ∃ (z : Str) (kvs : List (Key × D)) (zs : List Str), r1.look = .str z ∧ r2.look = .dk kvs ∧ kvs.map (·.2) = zs.map D.str ∧ P (.sh (.bl (if neg then !decide (z ∈ zs) else decide (z ∈ zs))))
end
end DL
/-! ### x = f(..), the answer None or a new list -/
namespace DL
open PySem L2 PyProof.Rows
section
variable {X : Cx} {b : Bg} {K : PySem.W.Frag}
def uOwnN (i : Nat) (u : DX) : DS := fun DD e => u e fun r e' => match r with
  | .ow o => DD.nx (e'.set i (.own none o))
  | .sh d => DD.nx (e'.set i (.sh d))
  | _ => False
end
end DL
/-! ### sorted(text) -/
namespace SM
open PySem PyProof.Rows L2
section
variable {P : Program} {w : World} {A : Around} {E : Value → Shared → Prop} {s : Shared}
theorem strs_of : ∀ {zs : List Str} {us : List Value}, us.length = zs.length → (∀ (i : Nat) (a : Str) (u : Value), zs[i]? = some a → us[i]? = some u → ∃ t, u = Value.str a t) → StrsAre us zs
  | [], [], _, _ => .nil
  | [], _ :: _, h, _ => by cases h
  | _ :: _, [], h, _ => by cases h
  | z :: zs, u :: us, h, k => by
    obtain ⟨t, rfl⟩ := k 0 z u rfl rfl
    exact .cons z t (strs_of (by simpa using h) fun i a u h1 h2 => k (i + 1) a u (by simpa using h1) (by simpa using h2))
end
section
variable {X : Cx}
end
end SM
namespace DL
open PySem L2 PyProof.Rows
section
variable {X : Cx} {b : Bg} {K : PySem.W.Frag}
end
end DL
/-! ### an owned thing lent to an expression that draws nothing, where the source of draws stands -/
namespace DL
open PySem L2 PyProof.Rows
def wipeS : Sl → Sl
  | .sh d => .sh d
  | _ => .un
theorem e_ws1 {d : D} : wipeS (.sh d) = .sh d := rfl
theorem e_ws2 : wipeS .un = .un := rfl
theorem e_ws3 : wipeS .bag = .un := rfl
theorem e_ws4 {q : Option Addr} {o : OD} : wipeS (.own q o) = .un := rfl
section
variable {X : Cx} {b : Bg} {K : PySem.W.Frag}
theorem Good.pure {L : Lk} {G0 H0 G H : Hp} {σ : L2.St} {e : List Sl} (g : Good K b L G0 H0 G H σ e) : Good K (bN none) [] G H G H σ (e.map wipeS) := by
  have own : ∀ (i : Nat) (q : Option Addr) (o : OD), (e.map wipeS)[i]? ≠ some (.own q o) := fun i q o h => by
    rw [List.getElem?_map] at h
    obtain ⟨x, _, h2⟩ := Option.map_eq_some_iff.mp h
    cases x <;> cases h2
  have notr : ∀ (i : Nat) (t : OT), (e.map wipeS)[i]? ≠ some (.tr t) := fun i t h => by
    rw [List.getElem?_map] at h
    obtain ⟨x, _, h2⟩ := Option.map_eq_some_iff.mp h
    cases x <;> cases h2
  refine ⟨⟨Stp.refl g.ex, fun i x hx => ?_, fun i j q q' o o' a h1 => absurd h1 (own i q o), fun a h => (by cases h), fun a od u h => (by cases h), by rw [List.length_map]; exact g.len, fun i j t y a h1 => absurd h1 (notr i t)⟩, xl_n⟩
  rw [List.getElem?_map] at hx
  obtain ⟨y, hy, h2⟩ := Option.map_eq_some_iff.mp hx
  cases y with
  | sh d =>
    cases h2
    exact g.slot i _ hy
  | un => cases h2; trivial
  | own q o => cases h2; trivial
  | bag => cases h2; trivial
  | tr t => cases h2; trivial
def uLendP (i : Nat) (u : DE) : DE := fun e P => ∃ q o, nth e i = .own q o ∧ u ((e.set i (.sh o.d)).map wipeS) fun r => lentR false r = true ∧ P r
end
end DL
/-! ### None in xs, xs a list of lists -/
namespace DL
open PySem PySem.Spec L2 PyProof.Rows
section
variable {X : Cx} {b : Bg} {K : PySem.W.Frag}
end
end DL
/-! ### dict displays over data; shifts -/
namespace DL
open PySem L2 PyProof.Rows
section
variable {X : Cx} {b : Bg} {K : PySem.W.Frag}
/-- what was laid since is written to -/
theorem Stp.put {b : Option Addr} {G H G2 H2 : Hp} {p : Addr} {o0 o1 : HO} (s : Stp b [] G (upd H p o0) G2 H2) (ex : Ex G H) (hb : b ≠ .some p) (hp : H p = none) : Stp b [] G H G2 (upd H2 p o1) := by
  have gp : G p = none := ex.none hp
  have g2p : G2 p = none := s.new p hb (by rw [upd_same]; simp) gp
  refine ⟨s.g, fun a o hba nm h => ?_, fun a hba h hg => ?_, fun a o h => ?_, fun a ha h => ?_⟩
  · have ne : a ≠ p := ne_of_none h hp
    rw [upd_ne ne]
    refine s.fr a o hba nm ?_
    rw [upd_ne ne]; exact h
  · have ne : a ≠ p := fun z => h (by rw [z]; exact hp)
    exact s.new a hba (by rw [upd_ne ne]; exact h) hg
  · have ne : a ≠ p := fun z => by rw [z, g2p] at h; cases h
    rw [upd_ne ne]
    exact s.ex a o h
  · obtain ⟨h1, q, ns, i, n, z, h2, h3, h4⟩ := h
    have ne : a ≠ p := ne_of_none h2 hp
    obtain ⟨k1, q', ns', i', n', z', k2, k3, k4⟩ := s.bag a ha ⟨h1, q, ns, i, n, z, by rw [upd_ne ne]; exact h2, h3, h4⟩
    exact ⟨k1, q', ns', i', n', z', by rw [upd_ne ne]; exact k2, k3, k4⟩
/-- a key as data -/
def asK (P : Key → Prop) : R → Prop
  | .sh (.int i) => P (.inl i)
  | .sh (.str z) => P (.inr z)
  | _ => False
theorem e_asK1 {P : Key → Prop} {i : Int} : asK P (.sh (.int i)) = P (.inl i) := rfl
theorem e_asK2 {P : Key → Prop} {z : Str} : asK P (.sh (.str z)) = P (.inr z) := rfl
abbrev DPs := List Sl → (List (Key × D) → Prop) → Prop
def uPs0 : DPs := fun _ P => P []
def uPsC (uk uv : DE) (r : DPs) : DPs := fun e P => uk e (asK fun k => uv e (R.keep fun d => r e fun l => P ((k, d) :: l)))
def LPs (K : PySem.W.Frag) (b : Bg) (trs : List (TE × TE)) (u : DPs) : Prop := ∀ (L : Lk) (G0 H0 G H : Hp) (σ : L2.St) (e : List Sl) (P : List (Key × D) → Prop) (Q : List (V × V) → Hp → Prop), Good K b L G0 H0 G H σ e → u e P →
  (∀ kvs l G' H', Stp b [] G H G' H' → RepK K G' l kvs → l.length = trs.length → P l → Q (kvs.map fun kv => (kV kv.1, kv.2)) H') → tPairs trs σ H Q
structure PDPs (X : Cx) (b : Bg) (pos : Pos) (ks : List (Option Expr)) (vs : List Expr) (u : DPs) : Prop where
  ex : ∃ trs, PPs X pos ks vs trs ∧ LPs X.K b trs u ∧ trs.length = ks.length
def uDispG (u : DPs) : DE := fun e P => u e fun l => P (.ow (.dk (mergeD [] l)))
end
end DL
/-! ### sorted of texts, any number of them -/
namespace SrtO
open PySem PyProof.Rows Srt
section
variable {prog : Program} {w : World} {A : Around} {E : Value → Shared → Prop} {s : Shared}
def ltSv (v u : Value) : Bool := decide ((strOf v).cps.toList < (strOf u).cps.toList)
theorem ltSv_le {v u : Value} : ltSv v u = false ↔ DL.leS (strOf u) (strOf v) = true := by
  rw [DL.leS_iff]
  unfold ltSv
  rw [decide_eq_false_iff_not]
theorem swo_str : Swo ltSv := by
  refine ⟨fun x y h => ?_, fun x y z h1 h2 => ?_⟩
  · rw [ltSv_le]
    have := DL.leS_total (strOf x) (strOf y)
    cases q : DL.leS (strOf x) (strOf y) with
    | true => rfl
    | false =>
      rw [q] at this
      have h3 : ltSv x y = false := ltSv_le.mpr (by simpa using this)
      rw [h] at h3; cases h3
  · rw [ltSv_le] at *
    exact DL.leS_trans _ _ _ h1 h2
theorem str_cmp {vs : List Value} {ns : List PySem.Str} (hI : StrsAre vs ns) : Cmp prog w A s oneType' (fun p => p.1 ∈ vs) (lt2 ltSv) := by
  intro p q hm hm'
  obtain ⟨a, t, e⟩ := hI.all _ hm
  obtain ⟨b, u, e'⟩ := hI.all _ hm'
  show wpAny (model prog w) A (keyLt' oneType' p.1 q.1) (fun r s' => s' = s ∧ r = ltSv p.1 q.1) (fun _ _ => False) s
  rw [e, e', keyLt'_oneType]
  exact oneLt_str ⟨rfl, rfl⟩
theorem strs_sortable {a : Addr} {vs : List Value} {ns : List PySem.Str} (hI : StrsAre vs ns) (h2 : 2 ≤ vs.length) : SortableO prog w A s a vs ltSv := by
  intro h' _
  refine ⟨oneType', fun Q E hq => ?_, str_cmp hI⟩
  match vs, hI, h2 with
  | v1 :: v2 :: rest, hI, _ =>
    rw [keyKind_strs hI]
    exact wpAny_pure hq
  | [], _, h => exact absurd h (by decide)
  | [v], _, h => exact absurd h (by simp)
theorem strs_out {vs out : List Value} {ns : List PySem.Str} (hI : StrsAre vs ns) (hs : Srtd ltSv out) (hb : Stb ltSv out vs) : StrsAre out (out.map strOf) ∧ (out.map strOf).Perm ns ∧ (out.map strOf).Pairwise (fun a b => DL.leS a b = true) := by
  refine ⟨strsAre_map _ fun v hv => hI.all v (hb.perm.mem_iff.mp hv), ?_, ?_⟩
  · have q := hb.perm.map strOf
    rw [hI.strs] at q
    exact q
  · exact List.pairwise_map.mpr (hs.imp fun {x y} h => ltSv_le.mp h)
end
end SrtO
namespace DL
open PySem PySem.Spec L2 PyProof.Rows
def rSortedSW (K : PySem.W.Frag) : List V → Hp → VK → Prop := fun vs H Q => ∃ (a : Addr) (ns : List Str), vs = [V.ref a] ∧ SqL K H a (ns.map V.str) ∧
  ∀ (ns' : List Str) (p : Addr), ns'.Perm ns → ns'.Pairwise (fun a b => leS a b = true) → H p = none → Q (.ref p) (upd H p (.lst (ns'.map V.str)))
section
variable {X : Cx} {b : Bg} {K : PySem.W.Frag}
theorem cr_sortedSW : CallR X (.builtin "sorted") (rSortedSW X.K) := by
  intro pins s σ H vs us Q I r h
  obtain ⟨a, ns, rfl, hs, q⟩ := h
  obtain ⟨its, rv, hl, hz⟩ := I.list hs
  rw [Vals.ref1 r]
  have hi := Vals.strs rv
  refine SrtO.sorted_ord SrtO.swo_str hl.isList (by rw [← rv.length]; exact hz) (fun h2 h₁ a' _ _ => SrtO.strs_sortable hi h2) fun out h1 h2 => ?_
  obtain ⟨k1, k2, k3⟩ := SrtO.strs_out hi h1 h2
  obtain ⟨ep, he'⟩ := PyProof.Rows.sortedAll_at s.heap its out.toArray
  have hlen : ((out.map strOf).map V.str).length ≤ sizeLine := by
    rw [List.length_map, k2.length_eq]
    rw [List.length_map] at hz
    exact hz
  exact ⟨.ref _, upd H (s.heap.objs.size + 1) (.lst ((out.map strOf).map V.str)), I.laid (t' := s.toks) (fun _ _ => PyProof.Rows.sortedAll_old) (Nat.le_succ _) ⟨hlen, out, ep, vals_of_strs k1, he'⟩, rfl, q _ _ k2 k3 (I.hok.fresh (Nat.le_succ _))⟩
def fSortedW (d : D) (P : R → Prop) : Prop := ∃ zs : List Str, d = .lst (zs.map .str) ∧ P (.ow (.lst ((srtS zs).map .str)))
theorem lc_sortedW : LC K (rSortedSW K) fSortedW := by
  intro b L G0 H0 G H σ e d x P Q g h hf k
  obtain ⟨zs, rfl, q⟩ := hf
  obtain ⟨a, vs, rfl, ha, hr⟩ := h
  rw [repL_str hr] at ha
  exact ⟨a, zs, rfl, SqL.of ha, fun ys p pm so np => by
    obtain rfl := srtS_eq pm so
    exact g.newL (repL_map (f := D.str) (g := V.str) (fun _ => rfl) _) q k p np⟩
theorem d_sortedW {a : Expr} {u : DE} {p pos : Pos} (hm : X.mg "sorted" = none) (h1 : PD X b a u) (hg : Gl X "sorted" := by rfl) (hs : starEach (a :: []) X.env = (false, eval a X.env) :: starEach [] X.env := by rfl) (hpl : (backTo pos (starEach [] X.env)).any (·.1) = false := by rfl) :
    PD X b (.Call (.Name "sorted" p) [a] [] pos) (uB fSortedW u) := d_b1 cr_sortedSW lc_sortedW hm (by decide +kernel) h1 hg (hs := hs) (hpl := hpl)
end
end DL
/-! ### sorted(set(xs)), xs a list of up to 4000 texts -/
namespace DL
open PySem PySem.Spec L2 PyProof.Rows
section
variable {X : Cx} {b : Bg} {K : PySem.W.Frag}
end
end DL
/-! ### a new tuple that ends with a new list; its list taken out -/
namespace DL
open PySem L2 PyProof.Rows
section
variable {X : Cx} {b : Bg} {K : PySem.W.Frag}
theorem repTs_leaf {G H : Hp} : ∀ {xs : List D} {vs : List V}, RepL K G xs vs → RepTs K G H (xs.map OT.leaf) vs
  | [], _, h => h
  | x :: xs, _, ⟨v, r, h1, h2, h3⟩ => ⟨v, r, h1, h2, repTs_leaf h3⟩
theorem leaf_repTs {G H : Hp} : ∀ {xs : List D} {vs : List V}, RepTs K G H (xs.map OT.leaf) vs → RepL K G xs vs
  | [], _, h => h
  | x :: xs, _, ⟨v, r, h1, h2, h3⟩ => ⟨v, r, h1, h2, leaf_repTs h3⟩
theorem ads_leaf : ∀ xs : List D, OT.ads (xs.map OT.leaf) = []
  | [] => rfl
  | x :: xs => ads_leaf xs
/-- (d1, d2, xs), xs a new list -/
def uTup3 (u1 u2 u3 : DE) : DE := fun e P => u1 e (R.keep fun d1 => u2 e (R.keep fun d2 => u3 e fun r => ∃ xs, r = .ow (.lst xs) ∧ ∀ p a, P (.tr (.tup p [.leaf d1, .leaf d2, .lst a (xs.map .leaf)]))))
theorem e_ret4 {t : OT} : R.ret (.tr t) = .tr t := rfl
/-- x[n], x a new tuple, its n-th item a new list -/
def uTake (n : Nat) (u : DE) : DE := fun e P => u e fun r => ∃ p ts a xs, r = .tr (.tup p ts) ∧ ts[n]? = some (.lst a (xs.map .leaf)) ∧ P (.ow (.lst xs))
end
end DL
/-! ### slots that own a tree -/
namespace DL
open PySem L2 PyProof.Rows
section
variable {X : Cx} {b : Bg} {K : PySem.W.Frag}
theorem Good.setT {L : Lk} {G0 H0 G H : Hp} {σ : L2.St} {e : List Sl} (g : Good K b L G0 H0 G H σ e) (i : Nat) {t : OT} {v : V} (h : NewT K b.a (fun a => Fresh H0 σ e a) G H t v) :
    Good K b L G0 H0 G H (σ.set i (some v)) (e.set i (.tr t)) where
  stp := g.stp
  slot := fun j x hx => by
    rw [get_set] at hx ⊢
    by_cases c : i = j
    · rw [if_pos c] at hx ⊢
      by_cases d' : i < e.length
      · rw [if_pos d'] at hx
        cases hx
        rw [if_pos (by rw [← g.len]; exact d')]
        exact ⟨v, rfl, NewT.imp h fun a h1 h2 => ⟨h1, h2.1⟩⟩
      · rw [if_neg d'] at hx; cases hx
    · rw [if_neg c] at hx ⊢
      exact g.slot j x hx
  inj := fun j k t1 t2 o1 o2 a' h1 h2 h3 h4 => by
    rw [get_set] at h1 h2 h3 h4
    by_cases c : i = j
    · rw [if_pos c] at h1
      split at h1 <;> cases h1
    · by_cases c' : i = k
      · rw [if_pos c'] at h2
        split at h2 <;> cases h2
      · rw [if_neg c] at h1 h3
        rw [if_neg c'] at h2 h4
        exact g.inj j k t1 t2 o1 o2 a' h1 h2 h3 h4
  bag := g.bag
  lk := g.lk
  len := by rw [List.length_set, List.length_set]; exact g.len
  injT := fun j k t1 y c h1 h2 h3 h4 => by
    rw [get_set] at h1 h2 h4
    by_cases c1 : i = j
    · by_cases c2 : i = k
      · exact c1.symm.trans c2
      · rw [if_pos c1] at h1
        rw [if_neg c2] at h2 h4
        split at h1
        · cases h1
          exact absurd h4 (((h.ok c h3).2.1).2 k y h2)
        · cases h1
    · rw [if_neg c1] at h1
      by_cases c2 : i = k
      · rw [if_pos c2] at h2
        split at h2
        · cases h2
          exact absurd (show Fp (.tr t1) σ[j]? c from h3) (((h.ok c h4).2.1).2 j (.tr t1) h1)
        · cases h2
      · rw [if_neg c2] at h2 h4
        exact g.injT j k t1 y c h1 h2 h3 h4
  xl := g.xl
/-- x = e, e a new tree -/
def uSetT (i : Nat) (u : DX) : DS := fun DD e => u e fun r e' => match r with
  | .tr t => DD.nx (e'.set i (.tr t))
  | _ => False
theorem ds_setT {i : Nat} {x : Str} {a : Expr} {u : DX} {pos pos' : Pos} (h : PDX X b a u) (hN : X.N.Nodup) (hi : X.N[i]? = some x := by rfl) (hx : Loc X.env.scope x := by first | exact Or.inl rfl | exact Or.inr rfl) (hs : swapsWith a (some (.Name x pos')) pos.line X.env = pure false := by rfl)
    (hf : X.fn x = true ∨ X.env.scope.names.lookup x = some .local := by first | exact .inl rfl | exact .inr rfl | assumption) : PDS X b (.Assign [.Name x pos'] a pos) (uSetT i u) := by
  obtain ⟨t, p, l⟩ := h
  refine ⟨_, ps_set hN hi hx p hs hf, ?_⟩
  intro L G0 H0 G H σ e DD D g ok hu
  refine l L G0 H0 G H σ e _ _ g hu fun v r e' G' H' g' hr q => ?_
  cases r with
  | tr t => exact ok.nx _ _ _ _ (g'.setT i hr) q
  | _ => exact q.elim

/-- one of the things of a slot's tree changes -/
theorem Good.updT {L : Lk} {G0 H0 G H : Hp} {σ : L2.St} {e : List Sl} (g : Good K b L G0 H0 G H σ e) {i : Nat} {t t' : OT} {v : V} {a : Addr} {ho : HO} (hi : e[i]? = some (.tr t)) (hs : σ[i]? = some (some v)) (ha : a ∈ t.ad) (hm : ∀ od u, H a ≠ some (.frz od u)) (hn : t'.node = true) (had : t'.ad = t.ad) (h : RepT K G (L2.upd H a ho) t' v) :
    Good K b L G0 H0 G (L2.upd H a ho) σ (e.set i (.tr t')) := by
  obtain ⟨v', h1, hT⟩ := g.slot i _ hi
  rw [hs] at h1
  cases h1
  obtain ⟨h2, h3, h4⟩ := hT.ok a ha
  refine ⟨⟨⟨g.stp.g, fun c u hc nm hu => ?_, g.stp.new, fun c u hu => ?_, fun c hc h => ?_⟩, fun j x hx => ?_, fun j k t1 t2 o1 o2 c q1 q2 q3 q4 => ?_, fun c hc => ?_, fun c od u m => ?_, by rw [List.length_set]; exact g.len, fun j k t1 y c h1 h2 h3 h4 => ?_⟩, g.xl⟩
  · have hca : c ≠ a := fun z => by rw [z, h3] at hu; cases hu
    rw [upd_ne hca]
    exact g.stp.fr c u hc nm hu
  · rw [upd_ne (ne_of_none hu h4)]
    exact g.ex c u hu
  · have q := g.stp.bag c hc h
    obtain ⟨z1, s, ns, i, n, z, z2, z3⟩ := q
    have hca : c ≠ a := fun z => h2 (by rw [← z]; exact hc)
    exact ⟨z1, s, ns, i, n, z, by rw [upd_ne hca]; exact z2, z3⟩
  · rw [get_set] at hx
    by_cases c : i = j
    · rw [if_pos c] at hx
      split at hx
      · cases hx
        subst c
        exact ⟨v, hs, hn, h, by rw [had]; exact hT.nd, fun c hc => hT.ok c (by rw [← had]; exact hc)⟩
      · cases hx
    · rw [if_neg c] at hx
      have q := g.slot j x hx
      cases x with
      | un => trivial
      | sh d => exact q
      | own t2 o2 =>
        obtain ⟨a2, ho2, z1, z2, z3, z4, z5, z6⟩ := q
        have ne : a2 ≠ a := fun z => by
          subst z
          exact c (g.injT i j t _ a2 hi hx ha z1)
        exact ⟨a2, ho2, z1, z2, z3, z4, by rw [upd_ne ne]; exact z5, z6⟩
      | bag => exact q
      | tr t2 =>
        obtain ⟨v2, z1, z2⟩ := q
        refine ⟨v2, z1, z2.node, z2.rep.frame (Sub.refl G) fun c1 hc1 o1 ho1 => ?_, z2.nd, z2.ok⟩
        rw [upd_ne (fun z : c1 = a => c (g.injT i j t _ a hi hx ha (by show a ∈ t2.ad; rw [← z]; exact hc1)))]
        exact ho1
  · have tr : ∀ {j : Nat} {t1 : Option Addr} {o1 : OD}, (e.set i (.tr t'))[j]? = some (.own t1 o1) → e[j]? = some (.own t1 o1) := fun {j t1 o1} q => by
      rw [get_set] at q
      by_cases c : i = j
      · rw [if_pos c] at q; split at q <;> cases q
      · rw [if_neg c] at q; exact q
    exact g.inj j k _ _ _ _ c (tr q1) (tr q2) q3 q4
  · obtain ⟨z1, s, ns, i, n, z, z2, z3⟩ := g.bag c hc
    have hca : c ≠ a := fun z => h2 (by rw [← z]; exact hc)
    exact ⟨z1, s, ns, i, n, z, by rw [upd_ne hca]; exact z2, z3⟩
  · have q := g.lk c od u m
    have hca : c ≠ a := fun z => hm od u (by rw [← z]; exact q)
    rw [upd_ne hca]; exact q
  · have tr : ∀ {j : Nat} {y : Sl}, (e.set i (.tr t'))[j]? = some y → ∃ y', e[j]? = some y' ∧ (∀ s c, Fp y s c → Fp y' s c) ∧ (∀ t1, y = .tr t1 → ∃ t2, y' = .tr t2 ∧ t1.ad = t2.ad) := fun {j y} q => by
      rw [get_set] at q
      by_cases c : i = j
      · rw [if_pos c] at q
        split at q
        · cases q
          subst c
          exact ⟨_, hi, fun s c h => by show c ∈ t.ad; rw [← had]; exact h, fun t1 z => by cases z; exact ⟨t, rfl, had⟩⟩
        · cases q
      · rw [if_neg c] at q
        exact ⟨y, q, fun _ _ h => h, fun t1 z => ⟨t1, z, rfl⟩⟩
    obtain ⟨y1, w1, _, w2⟩ := tr h1
    obtain ⟨t2, rfl, w3⟩ := w2 t1 rfl
    obtain ⟨y2, x1, x2, _⟩ := tr h2
    exact g.injT j k t2 y2 c w1 x1 (by rw [← w3]; exact h3) (x2 _ _ h4)
/-- x[n].append(e), x a new tuple, its n-th item a new list -/
def uAppT (i n : Nat) (u : DX) : DS := fun DD e => ∃ p ts a xs, nth e i = .tr (.tup p ts) ∧ ts[n]? = some (.lst a (xs.map .leaf)) ∧ xs.length < 1000000 ∧ u e fun r e' => e' = e ∧ r.keep fun d => DD.nx (e.set i (.tr (.tup p (ts.set n (.lst a ((xs ++ [d]).map .leaf))))))
end
end DL
/-! ### a slot's tree frozen, or lent to an expression that draws nothing -/
namespace DL
open PySem L2 PyProof.Rows
mutual
def OT.d : OT → D
  | .leaf d => d
  | .lst _ xs => .lst (OT.ds xs)
  | .tup _ xs => .tup (OT.ds xs)
  | .dk _ kvs => .dk kvs
  | .obj _ C fs => .obj C (OT.df fs)
  | .dt a _ => .fn a
def OT.ds : List OT → List D
  | [] => []
  | x :: xs => x.d :: OT.ds xs
def OT.df : List (Str × OT) → List (Str × D)
  | [] => []
  | (k, x) :: xs => (k, x.d) :: OT.df xs
end
def plainHO : HO → Bool
  | .lst _ | .tup _ | .dK _ | .ins _ _ _ => true
  | .dT vs => vs.all fun p => match p.2 with | .str _ => true | _ => false
  | _ => false
theorem plain_dT (kvs : List (List Key × Str)) : plainHO (.dT (kvs.map fun p => (p.1, V.str p.2))) = true := List.all_eq_true.mpr fun x hx => by
  obtain ⟨p, _, rfl⟩ := List.mem_map.mp hx
  rfl
section
variable {X : Cx} {b : Bg} {K : PySem.W.Frag} {G G' H H' : Hp}
mutual
theorem RepT.plain : ∀ {t : OT} {v : V}, RepT K G H t v → ∀ a ∈ t.ad, ∀ o, H a = some o → plainHO o = true
  | .leaf _, _, _, a, ha, _, _ => by cases ha
  | .lst c xs, _, ⟨_, vs, h2, h3⟩, a, ha, o, ho => (List.mem_cons.mp ha).elim (fun e => by rw [e, h2] at ho; cases ho; rfl) fun h => RepTs.plain h3 a h o ho
  | .tup c xs, _, ⟨_, vs, h2, h3⟩, a, ha, o, ho => (List.mem_cons.mp ha).elim (fun e => by rw [e, h2] at ho; cases ho; rfl) fun h => RepTs.plain h3 a h o ho
  | .dk c kvs, _, ⟨_, vs, h2, h3⟩, a, ha, o, ho => by rw [List.mem_singleton.mp ha, h2] at ho; cases ho; rfl
  | .obj c C fs, _, ⟨_, dx, vs, h2, h3⟩, a, ha, o, ho => (List.mem_cons.mp ha).elim (fun e => by rw [e, h2] at ho; cases ho; rfl) fun h => RepTf.plain h3 a h o ho
  | .dt c kvs, _, ⟨_, h2⟩, a, ha, o, ho => by rw [List.mem_singleton.mp ha, h2] at ho; cases ho; exact plain_dT kvs
theorem RepTs.plain : ∀ {xs : List OT} {vs : List V}, RepTs K G H xs vs → ∀ a ∈ OT.ads xs, ∀ o, H a = some o → plainHO o = true
  | [], _, _, a, ha, _, _ => by cases ha
  | x :: xs, _, ⟨v, r, h1, h2, h3⟩, a, ha, o, ho => (List.mem_append.mp ha).elim (fun h => RepT.plain h2 a h o ho) (fun h => RepTs.plain h3 a h o ho)
theorem RepTf.plain : ∀ {xs : List (Str × OT)} {vs : List (Str × V)}, RepTf K G H xs vs → ∀ a ∈ OT.adf xs, ∀ o, H a = some o → plainHO o = true
  | [], _, _, a, ha, _, _ => by cases ha
  | (k, x) :: xs, _, ⟨v, r, h1, h2, h3⟩, a, ha, o, ho => (List.mem_append.mp ha).elim (fun h => RepT.plain h2 a h o ho) (fun h => RepTf.plain h3 a h o ho)
end
mutual
theorem RepT.froz (e : Sub G G') : ∀ {t : OT} {v : V}, (∀ a ∈ t.ad, ∀ o, H a = some o → G' a = some o) → RepT K G H t v → Rep K G' t.d v
  | .leaf _, _, _, h => Rep.mono e h
  | .lst a xs, _, f, ⟨h1, vs, h2, h3⟩ => ⟨a, vs, h1, f a List.mem_cons_self _ h2, RepTs.froz e (fun c hc => f c (List.mem_cons_of_mem _ hc)) h3⟩
  | .tup a xs, _, f, ⟨h1, vs, h2, h3⟩ => ⟨a, vs, h1, .inl (f a List.mem_cons_self _ h2), RepTs.froz e (fun c hc => f c (List.mem_cons_of_mem _ hc)) h3⟩
  | .dk a kvs, _, f, ⟨h1, vs, h2, h3⟩ => ⟨a, vs, h1, f a List.mem_cons_self _ h2, h3.mono e⟩
  | .obj a C fs, _, f, ⟨h1, dx, vs, h2, h3⟩ => ⟨a, dx, vs, h1, f a List.mem_cons_self _ h2, RepTf.froz e (fun c hc => f c (List.mem_cons_of_mem _ hc)) h3⟩
  | .dt a kvs, _, f, ⟨h1, h2⟩ => h1
theorem RepTs.froz (e : Sub G G') : ∀ {xs : List OT} {vs : List V}, (∀ a ∈ OT.ads xs, ∀ o, H a = some o → G' a = some o) → RepTs K G H xs vs → RepL K G' (OT.ds xs) vs
  | [], _, _, h => h
  | x :: xs, _, f, ⟨v, r, h1, h2, h3⟩ => ⟨v, r, h1, RepT.froz e (fun c hc => f c (List.mem_append_left _ hc)) h2, RepTs.froz e (fun c hc => f c (List.mem_append_right _ hc)) h3⟩
theorem RepTf.froz (e : Sub G G') : ∀ {xs : List (Str × OT)} {vs : List (Str × V)}, (∀ a ∈ OT.adf xs, ∀ o, H a = some o → G' a = some o) → RepTf K G H xs vs → RepF K G' (OT.df xs) vs
  | [], _, _, h => h
  | (k, x) :: xs, _, f, ⟨v, r, h1, h2, h3⟩ => ⟨v, r, h1, RepT.froz e (fun c hc => f c (List.mem_append_left _ hc)) h2, RepTf.froz e (fun c hc => f c (List.mem_append_right _ hc)) h3⟩
end
open Classical in
/-- G, and at T what H has -/
noncomputable def ovl (T : List Addr) (G H : Hp) : Hp := fun c => if c ∈ T then H c else G c
open Classical in
/-- G without T -/
noncomputable def dels (T : List Addr) (G : Hp) : Hp := fun c => if c ∈ T then none else G c
theorem ovl_in {T : List Addr} {c : Addr} (h : c ∈ T) : ovl T G H c = H c := if_pos h
theorem dels_out {T : List Addr} {c : Addr} (h : c ∉ T) : dels T G c = G c := if_neg h
/-- slot i's tree is lent to e; what e answers is flat; e draws nothing -/
def uLendT (i : Nat) (u : DE) : DE := fun e P => ∃ t, nth e i = .tr t ∧ u ((e.set i (.sh t.d)).map wipeS) fun r => lentR false r = true ∧ P r
end
end DL
/-! ### sorted(set(xs)), xs a list of texts with up to 4000 different ones -/
namespace DL
open PySem PySem.Spec L2 PyProof.Rows
section
variable {X : Cx} {b : Bg} {K : PySem.W.Frag}
end
end DL
/-! ### a new tree given up at once -/
namespace DL
open PySem L2 PyProof.Rows
section
variable {X : Cx} {b : Bg} {K : PySem.W.Frag}
def uFzR (u : DE) : DE := fun e P => u e fun r => ∃ t, r = .tr t ∧ P (.sh t.d)
end
section
variable {X : Cx} {b : Bg} {K : PySem.W.Frag}
/-! ### a text so many times -/
end
theorem e_otds : ∀ xs : List D, OT.ds (xs.map OT.leaf) = xs
  | [] => rfl
  | x :: xs => by show x :: OT.ds _ = _; rw [e_otds xs]
theorem e_td3 {p a : Addr} {d1 d2 : D} {xs : List D} : (OT.tup p [.leaf d1, .leaf d2, .lst a (xs.map .leaf)]).d = .tup [d1, d2, .lst xs] := by
  show D.tup [d1, d2, .lst (OT.ds (xs.map .leaf))] = _
  rw [e_otds]
theorem e_ws5 {t : OT} : wipeS (.tr t) = .un := rfl
end DL
/-! ### >>, <<, max of a list of numbers -/
namespace DL
open PySem L2 PyProof.Rows
section
variable {X : Cx} {b : Bg} {K : PySem.W.Frag}
theorem lc_minI : LC K (rMin K) fun d P => ∃ ns : List Int, d = .lst (ns.map .int) ∧ 0 < ns.length ∧ ∀ m, m ∈ ns → (∀ y, y ∈ ns → m ≤ y) → P (.sh (.int m)) := by
  intro b L G0 H0 G H σ e d x P Q g h hf k
  obtain ⟨ns, rfl, h0, hp⟩ := hf
  obtain ⟨a, vs, rfl, ha, hr⟩ := h
  rw [repL_ints hr] at ha
  exact ⟨a, ns, rfl, SqL.of ha, h0, fun m h1 h2 => k _ (.sh (.int m)) G H (Stp.refl g.ex) rfl (hp m h1 h2)⟩
end
end DL
/-! ### x is True, x is False -/
namespace DL
open PySem L2 PyProof.Rows
section
variable {X : Cx} {b : Bg} {K : PySem.W.Frag}
end
end DL
/-! ### sorted of a list of pairs (text, number), any number of them -/
namespace SrtO
open PySem PyProof.Rows Srt
def IsPr (h : Heap) (v : Value) (q : PySem.Str × Int) : Prop := ∃ a o t u m, v = .ref a ∧ h.get? a = some o ∧ o.cls = .type "tuple" ∧ o.data = .seq #[.str q.1 t, .int q.2 u] m
theorem IsPr.keeps {h h' : Heap} {v : Value} {q : PySem.Str × Int} (p : IsPr h v q) (k : ∀ b o, h.get? b = some o → o.cls = .type "tuple" → h'.get? b = some o) : IsPr h' v q := by
  obtain ⟨a, o, t, u, n, e, ho, hc, hd⟩ := p
  exact ⟨a, o, t, u, n, e, k _ _ ho hc, hc, hd⟩
section
variable {prog : Program} {w : World} {A : Around} {E : Value → Shared → Prop} {s : Shared}
end
end SrtO
namespace DL
open PySem PySem.Spec L2 PyProof.Rows
section
variable {X : Cx} {b : Bg} {K : PySem.W.Frag}
open Classical in
end
end DL
/-! ### x in xs, x and the members of the list xs tuples and such; xs.index(text), text.index(sign) -/
namespace DL
open PySem L2 PyProof.Rows
section
variable {X : Cx} {b : Bg} {K : PySem.W.Frag}
end
end DL
/-! ### [*a, *b]: lists, tuples, dicts (their keys) -/
namespace DL
open PySem PySem.Spec L2 PyProof.Rows
section
variable {X : Cx} {pins : List (Addr × Obj)} {σ : L2.St} {H : Hp} {s : Shared}
end
section
variable {X : Cx} {b : Bg} {K : PySem.W.Frag}
end
end DL
/-! ### a dict of plain values != a copy of it -/
namespace DL
open PySem PySem.Spec L2 PyProof.Rows
section
variable {X : Cx} {b : Bg} {K : PySem.W.Frag}
end
end DL
/-! ### {**d, k: v} -/
namespace DL
open PySem L2 PyProof.Rows
section
variable {P : Program} {w : World} {A : Around} {E : Value → Shared → Prop} {s : Shared} {K : Type} [DecidableEq K] {knd : KeyKind P w K}
end
section
variable {X : Cx} {b : Bg} {K : PySem.W.Frag}
/-- {**d, k: v} -/
def uMerge1 (u : DE) (up : DPs) : DE := fun e P => u e (R.keep fun d => ∃ kvs, d = .dk kvs ∧ kvs.length ≤ 1000 ∧ up e fun l => P (.ow (.dk (mergeD (mergeD [] kvs) (mergeD [] l)))))
end
end DL
/-! ### o.m(e, .., k = v, ..), m a method with keyword-only parameters -/
namespace DL
open PySem L2 PyProof.Rows
structure KnownMK (P : Program) (w : World) (K : PySem.W.Frag) (mg : Str → Option Value) (base : Heap) (C : Addr) (m : Str) (k : Nat) (ps : List Str) (pats : List (Nat × List Str × List Nat)) (sp : Sp) : Prop where
  ex : ∃ g fd, FnOk P w K mg base CX0 k g fd ps sp ∧ Meth K C m g ∧ Cls K C ∧ ∀ q ∈ pats, KB K fd ps q.1 q.2.1 q.2.2
structure HereMK (K : PySem.W.Frag) (C : Addr) (m qual : Str) (st : Stmt) (ps : List Str) (pats : List (Nat × List Str × List Nat)) : Prop where
  ex : ∃ f fd, Fun K m qual st f fd ∧ Meth K C m f ∧ ∀ q ∈ pats, KB K fd ps q.1 q.2.1 q.2.2
section
variable {P : Program} {w : World} {K : PySem.W.Frag} {mg : Str → Option Value} {base : Heap}
end
section
variable {X : Cx} {b : Bg} {K : PySem.W.Frag}
def uMethK (C : Addr) (m : Str) (f : FS) (n j : Nat) (π : List Nat) (uo : DE) (ua uk : DA) : DE := fun e P => uo e (R.keep fun d => ∃ fs, d = .obj C fs ∧ fs.lookup m = none ∧ ua e fun ds => uk e fun zs => f (kput n j π (d :: ds) zs) P)
end
end DL
/-! ### a, *b = a list; text.split(sep); int(text) -/
namespace DL
open PySem PySem.Spec L2 PyProof.Rows
section
variable {P : Program} {w : World} {A : Around} {E : Value → Shared → Prop} {s : Shared}
end
section
variable {X : Cx} {b : Bg} {K : PySem.W.Frag}
end
end DL
/-! ### a classmethod without defaults -/
namespace DL
open PySem L2 PyProof.Rows
section
variable {K : PySem.W.Frag}
end
end DL
/-! ### a classmethod that may raise -/
namespace DL
open PySem L2 PyProof.Rows
section
variable {K : PySem.W.Frag}
structure HereCX (K : PySem.W.Frag) (C : Addr) (mc : Value) (m qual : Str) (st : Stmt) (ps : List Str) : Prop where
  ex : ∃ p g fd, Fun K m qual st g fd ∧ ClX.CMet K C mc m p g ∧ Binds K fd ps []
end
section
variable {X : Cx} {b : Bg} {K : PySem.W.Frag}
def uCMethX (C : Addr) (f : FSX) (dds : List D) (xp : XD → Prop) (ua : DA) : DE := fun e P => ua e fun ds => f (.fn C :: (ds ++ dds)) P xp
theorem le_cmethX {C : Addr} {f : FSX} {xp : XD → Prop} {E : XK} {dds : List D} {dvs : List V} {ta : TA} {ua : DA} (l : LA K b ta ua) (hrep : ∀ G, RepL K G dds dvs) (hE : ∀ {L : Lk} {G0 H0 G H G' H' : Hp} {σ : L2.St} {e : List Sl} {x : XD} {cls : Value} {d : Option Addr}, Good K b L G0 H0 G H σ e → Stp none [] G H G' H' → XRep K G' H' x cls d → xp x → E cls d H') :
    ∀ (L : Lk) (G0 H0 G H : Hp) (σ : L2.St) (e : List Sl) (P : R → Prop) (Q : VK), Good K b L G0 H0 G H σ e → uCMethX C f dds xp ua e P → (∀ v r G' H', Stp b [] G H G' H' → RepR K b H σ e G' H' r v → P r → Q v H') → ta σ H fun vs H1 => spX K f (.ref C :: (vs ++ dvs)) H1 Q E := by
  intro L G0 H0 G H σ e P Q g hu k
  refine l L G0 H0 G H σ e _ _ g hu fun vs ds G1 H1 s1 hds q => ?_
  have g1 := g.step s1
  refine ⟨G1, .fn C :: (ds ++ dds), P, xp, g1.ex, ⟨_, _, rfl, rfl, RepL.append hds (hrep G1)⟩, q, fun v r G' H' s hr hp => ?_, fun x cls d G' H' s hx hp => hE g1 s hx hp⟩
  exact k v r G' H' (s1.trans s.some) (ret_rep g1 hr fun a hb z => s1.back a hb z) hp
theorem d_cmethXq {C : Addr} {mc : Value} {m x : Str} {k : Nat} {ps : List Str} {dds : List D} {f : FSX} {a : Expr} {es : List Expr} {ua : DA} {p pos apos : Pos} {pl : Sem Bool} (F : KnownCX X.prog X.w X.K X.mg X.base C mc m k ps dds (spX X.K f)) (hr : Room k X.A) (hm : X.mg x = some (.ref C)) (r : ClX.CRead X.K C mc) (ha : PDA X b (a :: es) ua) (hg : Gl X x := by rfl) (hd : (x == ("__debug__" : Str)) = false := by decide)
    (hst : starEach (a :: es) X.env = (false, eval a X.env) :: starEach es X.env := by rfl) (hpl : (backTo pos (starEach es X.env)).any (·.1) = false := by rfl)
    (ht : eval (.Call (.Attribute (.Name x p) m apos) (a :: es) [] pos) X.env = (do
      let ov ← eval (.Name x p) X.env
      standAt apos.atName
      let (f, first) ← holding [ov] (getMethod ov m pl)
      callWith pos f first (backTo pos (starEach (a :: es) X.env)) (backToKw pos (keywordEach [] X.env))) := by rfl) : PD X b (.Call (.Attribute (.Name x p) m apos) (a :: es) [] pos) (uCMethX C f dds (fun _ => False) ua) := by
  obtain ⟨rp, fa, fd, ds0, dvs, F, hs, hb, hv, hrep⟩ := F
  obtain ⟨t, pa, l⟩ := ha
  refine ⟨_, ClX.pe_cmeth (E := E0) (pl := pl) (pe_glob (v := .ref C) hg hm rfl hd) r hs (FnOk.raw F hb hv) hr passL pa hst hpl ht, ?_⟩
  intro L G0 H0 G H σ e P Q g hu kk
  exact ⟨rfl, le_cmethX l hrep (fun _ _ _ h => h.elim) L G0 H0 G H σ e P Q g hu kk⟩
end
end DL
/-! ### a, b, c = x, y, z with plain names; the last two may be owned -/
namespace DL
open PySem L2 PyProof.Rows
section
variable {X : Cx} {b : Bg} {K : PySem.W.Frag}
theorem Fresh.setS {H0 : Hp} {σ : L2.St} {e : List Sl} {a : Addr} (f : Fresh H0 σ e a) (i : Nat) (d : D) (v : Option V) : Fresh H0 (σ.set i v) (e.set i (.sh d)) a := by
  refine ⟨f.1, fun j y hj hs => ?_⟩
  rw [get_set] at hj hs
  by_cases c : i = j
  · rw [if_pos c] at hj
    split at hj
    · cases hj; exact hs
    · cases hj
  · rw [if_neg c] at hj hs
    exact f.2 j y hj hs
def uPar3o (i j l : Nat) (o2 o3 : Bool) (u1 u2 u3 : DE) : DS := fun DD e => u1 e (R.keep fun d1 => u2 e fun r2 => u3 e fun r3 => r2.into o2 fun s2 => r3.into o3 fun s3 => DD.nx (((e.set i (.sh d1)).set j s2).set l s3))
end
end DL
/-! ### C.m(e, .., k = v, ..), m a classmethod with a keyword-only parameter that has a default; it may raise -/
namespace DL
open PySem L2 PyProof.Rows
structure KnownCXD (P : Program) (w : World) (K : PySem.W.Frag) (mg : Str → Option Value) (base : Heap) (C : Addr) (mc : Value) (m : Str) (k : Nat) (ps : List Str) (dds : List D) (pats : List (Nat × List Str × List Nat)) (sp : Sp) : Prop where
  ex : ∃ p g fd ds dvs, FnOk P w K mg base (L2.CX P w) k g fd ps sp ∧ ClX.CMet K C mc m p g ∧ Binds K fd ps ds ∧ Vals dvs ds ∧ (∀ G, RepL K G dds dvs) ∧ ∀ q ∈ pats, KB K fd ps q.1 q.2.1 q.2.2
theorem KnownCXD.c {P : Program} {w : World} {K : PySem.W.Frag} {mg : Str → Option Value} {base : Heap} {C : Addr} {mc : Value} {m : Str} {k : Nat} {ps : List Str} {dds : List D} {pats : List (Nat × List Str × List Nat)} {sp : Sp} (F : KnownCXD P w K mg base C mc m k ps dds pats sp) : KnownCX P w K mg base C mc m k ps dds sp := by
  obtain ⟨p, g, fd, ds, dvs, a, b, c, d, e, _⟩ := F.ex
  exact ⟨p, g, fd, ds, dvs, a, b, c, d, e⟩
structure HereCXD (K : PySem.W.Frag) (C : Addr) (mc : Value) (m qual : Str) (st : Stmt) (ps : List Str) (dds : List D) (pats : List (Nat × List Str × List Nat)) : Prop where
  ex : ∃ p g fd kws ds, FunD K m qual (defArgs st) (defBody st) (defScope st) [] kws g fd ∧ ClX.CMet K C mc m p g ∧ Vals (kws.map (·.2)) ds ∧ Binds K fd ps ds ∧ (∀ G, RepL K G dds (kws.map (·.2))) ∧ ∀ q ∈ pats, KB K fd ps q.1 q.2.1 q.2.2
theorem hereCXD_mk {K : PySem.W.Frag} {C : Addr} {mc : Value} {m qual kw : Str} {st : Stmt} {ps : List Str} {pats : List (Nat × List Str × List Nat)} {p g D0 T0 : Addr} {rest : List Value} {oc : Value} {od an o0 : Option Addr} {osl sl0 : Array (Option Value)} {doc pm cdv ct : Value} {n0 : Nat}
    (a : PySem.W.findCls K (.ref C) mc m = some (.get (.builtin "classmethod.__get__") (.ref p) .none (.ref C))) (r : PySem.W.recIn K p "classmethod" = some (.ref g :: rest)) (fi : PySem.W.fnIn K g = true)
    (l : K.lookup g = some ⟨oc, od, .func (PySem.W.fnOf m qual (defArgs st) (defBody st) (defScope st) .none (.ref D0) doc pm an cdv ct), osl⟩) (c : PySem.W.codeIn K cdv qual = true) (k : PySem.W.keepIn K (.ref g) = true)
    (d : PySem.W.nsIn K D0 kw = some (some (.ref T0))) (t : K.lookup T0 = some ⟨.type "tuple", o0, .seq #[] n0, sl0⟩)
    (h : ∀ (D : Addr) (doc pm : Value) (an : Option Addr) (cdv ct : Value) (us ks : List Value), us.length + 1 = ps.length → ks.length = 1 →
      KwChain D ([kw].zip ks) (bindArgs (PySem.W.fnOf m qual (defArgs st) (defBody st) (defScope st) .none (.ref D) doc pm an cdv ct) ⟨us, []⟩) (ps.zip (us ++ ks))) (hp : 1 ≤ ps.length)
    (hb : ∀ q ∈ pats, ∀ (D : Addr) (doc pm : Value) (an : Option Addr) (cdv ct : Value) (us ws : List Value), us.length = q.1 → ws.length = q.2.1.length → bindArgs (PySem.W.fnOf m qual (defArgs st) (defBody st) (defScope st) .none (.ref D) doc pm an cdv ct) ⟨us, q.2.1.zip ws⟩ = pure (ps.zip (q.2.2.filterMap fun i => (us ++ ws)[i]?))) : HereCXD K C mc m qual st ps [.tup []] pats := by
  have F : FunD K m qual (defArgs st) (defBody st) (defScope st) [] [(kw, V.ref T0)] g (PySem.W.fnOf m qual (defArgs st) (defBody st) (defScope st) .none (.ref D0) doc pm an cdv ct) :=
    ⟨⟨oc, od, .none, .ref D0, doc, pm, an, cdv, ct, osl, rfl, l, c, .inl ⟨rfl, rfl⟩, .inr ⟨D0, rfl, fun q hq => by
      rw [List.mem_singleton.mp hq]
      exact ⟨_, d, rfl⟩⟩⟩, k⟩
  obtain ⟨ds, hv, hbd⟩ := F.binds0 (ps := ps) (ps.length - 1) (by simp) (by simp; omega) (fun D doc pm an cdv ct us ks h1 h2 => h D doc pm an cdv ct us ks (by omega) (by simpa using h2))
  exact ⟨p, g, _, _, ds, F, ⟨a, ⟨rest, r⟩, fi⟩, hv, hbd, fun G => ⟨_, _, rfl, rep_tupK (ks := []) t (Nat.zero_le _) .nil G, rfl⟩, fun q hq => kb_mk (fun e => by rw [e] at hp; simp at hp) fun us ws h1 h2 => hb q hq D0 doc pm an cdv ct us ws h1 h2⟩
section
variable {P : Program} {w : World} {K : PySem.W.Frag} {mg : Str → Option Value} {base : Heap}
theorem fnOk_XD {x qual : Str} {st : Stmt} {f : Addr} {fd : FuncData} {N ps : List Str} {k : Nat} {fs : FSX} {u : (XD → Prop) → DS} {kws : List (Str × V)} (F : FunD K x qual (defArgs st) (defBody st) (defScope st) [] kws f fd) (S : FnScope N ps (defScope st)) (len : ∀ ds P XP, fs ds P XP → ds.length = ps.length)
    (hb : ∀ (xp : XD → Prop) (cdv : Value) (A : Around) (outer : List Env) (s : Shared) (H : Hp) (E : XK), Room k (A.deeper (envOfC qual (defScope st) s.heap.objs.size f cdv)) → L2.Takes (cxOf (L2.CX P w) P w K mg base N qual (defScope st) f cdv A outer s H E) (bE none E xp).W → PassesOwn (model P w) (cxOf (L2.CX P w) P w K mg base N qual (defScope st) f cdv A outer s H E).A (cxOf (L2.CX P w) P w K mg base N qual (defScope st) f cdv A outer s H E).env (cxOf (L2.CX P w) P w K mg base N qual (defScope st) f cdv A outer s H E).xe → PDSs (cxOf (L2.CX P w) P w K mg base N qual (defScope st) f cdv A outer s H E) (bE none E xp) (defBody st) (u xp))
    (hu : ∀ ds P XP, fs ds P XP → u XP ⟨fun _ => P (.sh .non), fun r _ => P r, fun _ => False, fun _ => False⟩ (env0 N ds)) : FnOk P w K mg base (L2.CX P w) (k + 1) f fd ps (spX K fs) := by
  refine F.ok S (fun vs H Q E h => ?_) (fun cdv A outer s H vs Q E hr h => ?_)
  · obtain ⟨G, ds, P, XP, _, hr, hf, _⟩ := h
    rw [hr.length]; exact len ds P XP hf
  · obtain ⟨G, ds, P', XP, ex, hds, hf, kk, kx⟩ := h
    obtain ⟨t, p, l⟩ := hb XP cdv A outer s H E hr (takes_of rfl rfl rfl rfl) (passes_of rfl)
    have g0 := good0 (N := N) ex hds
    refine ⟨t, p, l [] G H G H _ _ ⟨fun _ => P' (.sh .non), fun r _ => P' r, fun _ => False, fun _ => False⟩ _ ⟨g0.toGood0, fun h => (h rfl).elim, fun _ x cls d σ G' H' st hx h _ => kx x cls d G' H' st hx h⟩ ⟨fun G' H' σ e g h => ?_, fun G' H' σ e v r g hr h => ?_, fun G' H' σ e g h => h.elim, fun G' H' σ e g h => h.elim⟩ (hu ds P' XP hf)⟩
    · exact kk .non (.sh .non) G' H' g.stp rfl h
    · exact kk v r G' H' g.stp hr h
end
section
variable {X : Cx} {b : Bg} {K : PySem.W.Frag}
def uCMethK (C : Addr) (f : FSX) (n j : Nat) (π : List Nat) (xp : XD → Prop) (ua uk : DA) : DE := fun e P => ua e fun ds => uk e fun zs => f (kput n j π (.fn C :: ds) zs) P xp
end
end DL
/-! ### x in [..], x of an own class with __eq__, the items of builtin types -/
namespace DLQ
open PySem PySem.SeqAt
open AutoSeq1 (wpAny_loadPart')
open MeetsSeq MeetsSeq2 MeetsSeq3 SeqRoads2
section
variable {prog : Program} {w : World} {A : Around} {R : Result → Shared → Prop}
end
section
open PySem.W
variable {prog : Program} {w : World} {A : Around} {E : Value → Shared → Prop} {s : Shared} {K : Frag}
end
end DLQ
namespace DL
open PySem PySem.Spec L2 PyProof.Rows
/-- the class is no builtin one -/
structure Apart (K : PySem.W.Frag) (C : Addr) : Prop where
  i : PySem.W.subIn K (.ref C) (.type "int") = some false
  s : PySem.W.subIn K (.ref C) (.type "str") = some false
  t : PySem.W.subIn K (.ref C) (.type "tuple") = some false
  d : PySem.W.subIn K (.ref C) (.type "dict") = some false
  n : PySem.W.subIn K (.ref C) (.type "NoneType") = some false
section
variable {X : Cx} {b : Bg} {K : PySem.W.Frag}
/-- data of a builtin type -/
def buD : D → Bool
  | .non => true
  | .int _ => true
  | .str _ => true
  | .dk _ => true
  | .tup _ => true
  | _ => false
def uInOwn (C : Addr) (f : FS) (u1 u2 : DE) : DE := fun e P => u1 e (R.keep fun d1 => u2 e (R.keep fun d2 => (∃ fs1, d1 = .obj C fs1) ∧ ∃ xs, d2 = .lst xs ∧ (∀ x ∈ xs, buD x = true ∧ f [d1, x] fun r => r = .sh (.bl false)) ∧ P (.sh (.bl false))))
end
end DL
/-! ### isinstance(x, C), C an own class, x one of its objects or of a builtin type -/
namespace DL
open PySem PySem.Spec L2 PyProof.Rows
/-- no builtin value is an object of the class -/
structure NoBu (K : PySem.W.Frag) (C : Addr) : Prop where
  n : PySem.W.kitOne K (.type "NoneType") (.ref C) = some false
  b : PySem.W.kitOne K (.type "bool") (.ref C) = some false
  i : PySem.W.kitOne K (.type "int") (.ref C) = some false
  s : PySem.W.kitOne K (.type "str") (.ref C) = some false
  l : PySem.W.kitOne K (.type "list") (.ref C) = some false
  t : PySem.W.kitOne K (.type "tuple") (.ref C) = some false
  d : PySem.W.kitOne K (.type "dict") (.ref C) = some false
theorem NoBu.all {K : PySem.W.Frag} {C : Addr} (h : NoBu K C) (t : TyE) : PySem.W.kitOne K (.type t.s) (.ref C) = some false := by
  cases t
  · exact h.n
  · exact h.b
  · exact h.i
  · exact h.s
  · exact h.l
  · exact h.t
  · exact h.d
section
variable {X : Cx} {b : Bg} {K : PySem.W.Frag}
end
end DL
/-! ### a dict != {} -/
namespace DL
open PySem PySem.Spec L2 PyProof.Rows
section
variable {X : Cx} {b : Bg} {K : PySem.W.Frag}
end
end DL
namespace DL
open PySem PySem.Spec L2 PyProof.Rows
/-! ### operators of own classes: -a, a * b, x in a, and self.f, self.g = e -/
section
variable {X : Cx} {b : Bg} {K : PySem.W.Frag}
/-! readings -/
def uOp1X (C : Addr) (f : FSX) (xp : XD → Prop) (u : DE) : DE := fun e P => u e (R.keep fun d => (∃ fs, d = .obj C fs) ∧ f [d] P xp)
def uOp2X (C : Addr) (f : FSX) (xp : XD → Prop) (u1 u2 : DE) : DE := fun e P => u1 e (R.keep fun d1 => u2 e (R.keep fun d2 => (∃ fs, d1 = .obj C fs) ∧ (∃ fs, d2 = .obj C fs) ∧ f [d1, d2] (fun r => (∃ C' fs, r = .sh (.obj C' fs) ∨ r = .ow (.obj C' fs)) ∧ P r) xp))
def uInC (C : Addr) (neg : Bool) (f : FS) (u1 u2 : DE) : DE := fun e P => u1 e (R.keep fun d1 => u2 e (R.keep fun d2 => (∃ fs, d2 = .obj C fs) ∧ f [d2, d1] fun r => ∃ c : Bool, r = .sh (.bl c) ∧ P (.sh (.bl (if neg then !c else c)))))
/-! self.f, self.g = e -/
end
end DL
namespace DL
open PySem PySem.Spec L2 PyProof.Rows
/-! ### xs.remove(z), xs an owned list of texts that holds z -/
section
variable {X : Cx} {b : Bg} {K : PySem.W.Frag}
def uRemS (i : Nat) (u : DX) : DS := fun DD e => (∃ q xs, nth e i = .own q (.lst xs)) ∧ u e fun r e' => r.keep fun d => ∃ q, ∃ zs : List Str, ∃ z : Str, nth e' i = .own q (.lst (zs.map D.str)) ∧ d = .str z ∧ z ∈ zs ∧ DD.nx (e'.set i (.own q (.lst ((zs.erase z).map D.str))))
end
end DL
namespace DL
open PySem PySem.Spec L2 PyProof.Rows
/-! ### try: body / except ..: .., in a def that raises nothing, where the body raises nothing -/
section
variable {X : Cx} {b : Bg}
end
end DL
namespace DL
open PySem PySem.Spec PySem.W PySem.Calls L2 PyProof.Rows
/-! ### the head by facts -/
section
variable {K : PySem.W.Frag}
def na (K : PySem.W.Frag) (D : Addr) (x : Str) : Addr := match PySem.W.nsIn K D x with
  | some (some (.ref a)) => a
  | _ => 0
/-! the law's table of functions -/
end
/-! ### a def, found by a path of one's own -/
structure DefY where
  adr : PySem.W.Frag → Addr
  name : Str
  qual : Str
  params : Arguments
  body : List Stmt
  scope : Scope
def fnY (K : PySem.W.Frag) (a : Addr) : He.FnW := match K.lookup a with
  | some ⟨_, _, .func fd, _⟩ => some (fd.name, fd.qualname, fd.params, fd.body, fd.scope, fd.globals, fd.closure, fd.builtins)
  | _ => none
def DefY.val (d : DefY) : He.FnW := some (d.name, d.qual, d.params, .stmts d.body, d.scope, mainGlobals, [], builtinsNs)
def DefY.ok (K : PySem.W.Frag) (d : DefY) : Bool := PySem.W.keepIn K (.ref (d.adr K)) && (match K.lookup (d.adr K) with
  | some ⟨_, _, .func fd, _⟩ => PySem.W.codeIn K fd.code d.qual && (match fd.defaults with | .none => true | _ => false)
  | _ => false)
def DefY.At (K : PySem.W.Frag) (d : DefY) : Prop := ∃ oc od kV dc pm an cd ct sl, K.lookup (d.adr K) = some ⟨oc, od, .func (PySem.W.fnOf d.name d.qual d.params d.body d.scope .none kV dc pm an cd ct), sl⟩ ∧ PySem.W.codeIn K cd d.qual = true ∧ PySem.W.keepIn K (.ref (d.adr K)) = true
theorem DefY.get {K : PySem.W.Frag} {d : DefY} (e : fnY K (d.adr K) = d.val) (c : d.ok K = true) : d.At K := by
  obtain ⟨kp, c2⟩ := He.ba c
  unfold fnY at e
  cases q : K.lookup (d.adr K) with
  | none => rw [q] at c2; cases c2
  | some o =>
    obtain ⟨oc, od, dt, osl⟩ := o
    rw [q] at c2 e
    cases dt with
    | func fd =>
      obtain ⟨n1, n2, n3, n4, n5, n6, n7, n8, n9, n10, n11, n12, n13, n14, n15⟩ := fd
      have e2 : (some (n1, n2, n3, n4, n5, n6, n7, n15) : He.FnW) = some (d.name, d.qual, d.params, .stmts d.body, d.scope, mainGlobals, [], builtinsNs) := e
      simp only [Option.some.injEq, Prod.mk.injEq] at e2
      obtain ⟨h1, h2, h3, h4, h5, h6, h7, h8⟩ := e2
      subst h1 h2 h3 h4 h5 h6 h7 h8
      obtain ⟨k1, k2⟩ := He.ba c2
      cases n8 with
      | none => exact ⟨oc, od, n9, n10, n11, n12, n13, n14, osl, q, k1, kp⟩
      | _ => cases k2
    | _ => cases c2
/-! ### the Hook -/
end DL
namespace DL
open PySem PySem.Spec PySem.W PySem.Calls L2 PyProof.Rows LamX
end DL
namespace DL
open PySem PySem.Spec L2 PyProof.Rows
/-! ### x = [.. for .. in a dict, or in its items or values] as a statement -/
section
variable {X : Cx} {b : Bg} {K : PySem.W.Frag}
end
end DL
/-! ### text.find(x), text.partition(x), *a, b = a list -/
namespace DL
open PySem PySem.Spec L2 PyProof.Rows
section
variable {X : Cx} {b : Bg} {K : PySem.W.Frag}
end
section
variable {P : Program} {w : World} {A : Around} {E : Value → Shared → Prop} {s : Shared}
end
section
variable {X : Cx} {b : Bg} {K : PySem.W.Frag}
end
end DL
/-! ### ghosts: references to things that change, their trees kept behind the names -/
namespace DL
open PySem PySem.Spec L2 PyProof.Rows
section
variable {K : PySem.W.Frag}
def cutH (A : List Addr) (H : Hp) : Hp := fun a => if a ∈ A then none else H a
/-- trees at hand -/
structure Trs (K : PySem.W.Frag) (b : Option Addr) (F : Addr → Prop) (G H : Hp) (ts : List OT) : Prop where
  ok : ∀ t ∈ ts, NewT K b F G H t (.ref t.root)
  nd : (OT.ads ts).Nodup
theorem ads_in {a : Addr} : ∀ {ts : List OT}, a ∈ OT.ads ts ↔ ∃ t ∈ ts, a ∈ t.ad
  | [] => by simp [OT.ads]
  | t :: ts => by
    show a ∈ t.ad ++ OT.ads ts ↔ _
    rw [List.mem_append, ads_in (ts := ts)]
    simp
theorem Trs.live {b : Option Addr} {F : Addr → Prop} {G H : Hp} {ts : List OT} (T : Trs K b F G H ts) : ∀ a ∈ OT.ads ts, (∃ o, H a = some o) ∧ b ≠ some a ∧ F a ∧ G a = none := fun a ha => by
  obtain ⟨t, ht, h⟩ := ads_in.mp ha
  exact ⟨(T.ok t ht).rep.live a h, (T.ok t ht).ok a h⟩
theorem Trs.step {b : Option Addr} {F : Addr → Prop} {G H G' H' : Hp} {ts : List OT} (T : Trs K b F G H ts) (s : Stp b [] G H G' H') : Trs K b F G' H' ts := ⟨fun t ht => (T.ok t ht).step s, T.nd⟩
theorem Trs.imp {b b' : Option Addr} {F F' : Addr → Prop} {G H : Hp} {ts : List OT} (T : Trs K b F G H ts) (f : ∀ a ∈ OT.ads ts, b' ≠ some a ∧ F' a) : Trs K b' F' G H ts :=
  ⟨fun t ht => ⟨(T.ok t ht).node, (T.ok t ht).rep, (T.ok t ht).nd, fun a ha => ⟨(f a (ads_in.mpr ⟨t, ht, ha⟩)).1, (f a (ads_in.mpr ⟨t, ht, ha⟩)).2, ((T.ok t ht).ok a ha).2.2⟩⟩, T.nd⟩
theorem Trs.tail {b : Option Addr} {F : Addr → Prop} {G H : Hp} {t : OT} {ts : List OT} (T : Trs K b F G H (t :: ts)) : Trs K b F G H ts := ⟨fun u hu => T.ok u (List.mem_cons_of_mem _ hu), (List.nodup_append.mp (show (t.ad ++ OT.ads ts).Nodup from T.nd)).2.1⟩
end
section
variable {b : Bg} {K : PySem.W.Frag}
def setGs (e : List Sl) : List Nat → List OT → List Sl
  | g :: gs, t :: ts => setGs (e.set g (.tr t)) gs ts
  | _, _ => e
def unGs (e : List Sl) : List Nat → List Sl
  | g :: gs => unGs (e.set g .un) gs
  | [] => e
end
end DL
/-! ### a def that is handed ghosts -/
namespace DL
open PySem PySem.Spec L2 PyProof.Rows
/-- what a def asks of its data and of the trees handed to it; what it answers with which trees; what it lets out (the trees being as before) -/
abbrev FMX := List D → List OT → (D → List OT → Prop) → (XD → Prop) → Prop
abbrev AdS (ts : List OT) (H : Hp) : Hp := cutH (OT.ads ts) H
def spM (K : PySem.W.Frag) (f : FMX) : Sp := fun vs H Q E => ∃ G ds ts P XP, Ex G H ∧ RepL K G ds vs ∧ Trs K none (fun _ => True) G H ts ∧ f ds ts P XP ∧
  (∀ v d G' H' ts', Stp none [] G (AdS ts H) G' H' → Trs K none (fun a => AdS ts H a = none) G' H' ts' → ts'.map OT.root = ts.map OT.root → Rep K G' d v → P d ts' → Q v H') ∧
  ∀ x cls d G' H', Stp none [] G (AdS ts H) G' H' → Trs K none (fun a => AdS ts H a = none) G' H' ts → XRep K G' H' x cls d → XP x → E cls d H'
section
variable {X : Cx}
end
section
variable {K : PySem.W.Frag}
section
variable {P : Program} {w : World} {mg : Str → Option Value} {base : Heap}
end
end
end DL
/-! ### ghosts lent to an expression -/
namespace DL
open PySem PySem.Spec L2 PyProof.Rows
/-- data that hold no list (kl), no dict (kk), no tuple (kt), no object of these classes -/
structure Kd where
  kl : Bool
  kk : Bool
  kt : Bool
  cs : List Addr
mutual
def avD (k : Kd) : D → Bool
  | .lst xs => !k.kl && avL k xs
  | .tup xs => !k.kt && avL k xs
  | .dk kvs => !k.kk && avK k kvs
  | .obj C fs => !k.cs.contains C && avF k fs
  | .exc _ fs => avF k fs
  | .tabl _ _ => false
  | _ => true
def avL (k : Kd) : List D → Bool
  | [] => true
  | x :: xs => avD k x && avL k xs
def avK (k : Kd) : List (Key × D) → Bool
  | [] => true
  | (_, x) :: xs => avD k x && avK k xs
def avF (k : Kd) : List (Str × D) → Bool
  | [] => true
  | (_, x) :: xs => avD k x && avF k xs
end
/-- what stands at these addresses is of these kinds -/
def KdOk (k : Kd) (G : Hp) (T : List Addr) : Prop := ∀ a ∈ T, (∃ vs, G a = some (.lst vs) ∧ k.kl = true) ∨ (∃ vs, G a = some (.dK vs) ∧ k.kk = true) ∨ (∃ vs, G a = some (.tup vs) ∧ k.kt = true) ∨ ∃ C dx vs, G a = some (.ins C dx vs) ∧ k.cs.contains C = true
section
variable {K : PySem.W.Frag} {G : Hp} {T : List Addr} {k : Kd}
theorem kd_l (h : KdOk k G T) {a : Addr} {vs : List V} (hk : k.kl = false) (hg : G a = some (.lst vs)) : a ∉ T := fun ha => by
  rcases h a ha with ⟨_, z, q⟩ | ⟨_, z, q⟩ | ⟨_, z, q⟩ | ⟨_, _, _, z, q⟩ <;> rw [hg] at z <;> first | cases z | skip
  rw [hk] at q; cases q
theorem kd_k (h : KdOk k G T) {a : Addr} {vs : List (Key × V)} (hk : k.kk = false) (hg : G a = some (.dK vs)) : a ∉ T := fun ha => by
  rcases h a ha with ⟨_, z, q⟩ | ⟨_, z, q⟩ | ⟨_, z, q⟩ | ⟨_, _, _, z, q⟩ <;> rw [hg] at z <;> first | cases z | skip
  rw [hk] at q; cases q
theorem kd_t (h : KdOk k G T) {a : Addr} {vs : List V} (hk : k.kt = false) (hg : G a = some (.tup vs)) : a ∉ T := fun ha => by
  rcases h a ha with ⟨_, z, q⟩ | ⟨_, z, q⟩ | ⟨_, z, q⟩ | ⟨_, _, _, z, q⟩ <;> rw [hg] at z <;> first | cases z | skip
  rw [hk] at q; cases q
theorem kd_o (h : KdOk k G T) {a C dx : Addr} {vs : List (Str × V)} (hk : k.cs.contains C = false) (hg : G a = some (.ins C dx vs)) : a ∉ T := fun ha => by
  rcases h a ha with ⟨_, z, q⟩ | ⟨_, z, q⟩ | ⟨_, z, q⟩ | ⟨_, _, _, z, q⟩ <;> rw [hg] at z <;> first | cases z | skip
  rw [hk] at q; cases q
theorem kd_x (h : KdOk k G T) {a : Addr} {o : HO} (hg : G a = some o) (hp : plainHO o = false) : a ∉ T := fun ha => by
  rcases h a ha with ⟨_, z, q⟩ | ⟨_, z, q⟩ | ⟨_, z, q⟩ | ⟨_, _, _, z, q⟩ <;> rw [hg] at z <;> cases z <;> cases hp
theorem not_tt {x y : Bool} (h : (!x && y) = true) : x = false ∧ y = true := by cases x <;> cases y <;> simp at h ⊢
mutual
theorem av_rep (h : KdOk k G T) : ∀ {d : D} {v : V}, avD k d = true → Rep K G d v → Rep K (dels T G) d v
  | .non, _, _, r => r
  | .bl _, _, _, r => r
  | .int _, _, _, r => r
  | .str _, _, _, r => r
  | .lst xs, _, a, ⟨p, vs, h1, h2, h3⟩ => by
    obtain ⟨a1, a2⟩ := not_tt (show (!k.kl && avL k xs) = true from a)
    exact ⟨p, vs, h1, by rw [dels_out (kd_l h a1 h2)]; exact h2, av_repL h a2 h3⟩
  | .tup xs, _, a, ⟨p, vs, h1, h2, h3⟩ => by
    obtain ⟨a1, a2⟩ := not_tt (show (!k.kt && avL k xs) = true from a)
    refine ⟨p, vs, h1, ?_, av_repL h a2 h3⟩
    rcases h2 with h2 | h2
    · exact .inl (by rw [dels_out (kd_t h a1 h2)]; exact h2)
    · exact .inr h2
  | .dk kvs, _, a, ⟨p, vs, h1, h2, h3⟩ => by
    obtain ⟨a1, a2⟩ := not_tt (show (!k.kk && avK k kvs) = true from a)
    exact ⟨p, vs, h1, by rw [dels_out (kd_k h a1 h2)]; exact h2, av_repK h a2 h3⟩
  | .obj C fs, _, a, ⟨p, dx, vs, h1, h2, h3⟩ => by
    obtain ⟨a1, a2⟩ := not_tt (show (!k.cs.contains C && avF k fs) = true from a)
    exact ⟨p, dx, vs, h1, by rw [dels_out (kd_o h a1 h2)]; exact h2, av_repF h a2 h3⟩
  | .fn _, _, _, r => r
  | .exc C fs, _, a, ⟨p, dd, vs, h1, h2, h3, h4⟩ => by
    exact ⟨p, dd, vs, h1, by rw [dels_out (kd_x h h2 rfl)]; exact h2, by rw [dels_out (kd_x h h3 rfl)]; exact h3, av_repE h (show avF k fs = true from a) h4⟩
  | .tabl _ _, _, a, _ => by cases (show false = true from a)
theorem av_repL (h : KdOk k G T) : ∀ {xs : List D} {vs : List V}, avL k xs = true → RepL K G xs vs → RepL K (dels T G) xs vs
  | [], _, _, r => r
  | x :: xs, _, a, ⟨v, r, h1, h2, h3⟩ => by
    obtain ⟨a1, a2⟩ := (Bool.and_eq_true _ _).mp (show (avD k x && avL k xs) = true from a)
    exact ⟨v, r, h1, av_rep h a1 h2, av_repL h a2 h3⟩
theorem av_repK (h : KdOk k G T) : ∀ {xs : List (Key × D)} {vs : List (Key × V)}, avK k xs = true → RepK K G xs vs → RepK K (dels T G) xs vs
  | [], _, _, r => r
  | (y, x) :: xs, _, a, ⟨v, r, h1, h2, h3⟩ => by
    obtain ⟨a1, a2⟩ := (Bool.and_eq_true _ _).mp (show (avD k x && avK k xs) = true from a)
    exact ⟨v, r, h1, av_rep h a1 h2, av_repK h a2 h3⟩
theorem av_repF (h : KdOk k G T) : ∀ {xs : List (Str × D)} {vs : List (Str × V)}, avF k xs = true → RepF K G xs vs → RepF K (dels T G) xs vs
  | [], _, _, r => r
  | (y, x) :: xs, _, a, ⟨v, r, h1, h2, h3⟩ => by
    obtain ⟨a1, a2⟩ := (Bool.and_eq_true _ _).mp (show (avD k x && avF k xs) = true from a)
    exact ⟨v, r, h1, av_rep h a1 h2, av_repF h a2 h3⟩
theorem av_repE (h : KdOk k G T) : ∀ {xs : List (Str × D)} {vs : List (Str × V)}, avF k xs = true → RepE K G xs vs → RepE K (dels T G) xs vs
  | [], _, _, r => r
  | (y, x) :: xs, _, a, ⟨⟨v, h1, h2⟩, h3⟩ => by
    obtain ⟨a1, a2⟩ := (Bool.and_eq_true _ _).mp (show (avD k x && avF k xs) = true from a)
    exact ⟨⟨v, h1, av_rep h a1 h2⟩, av_repE h a2 h3⟩
end
end
section
variable {b : Bg} {K : PySem.W.Frag} {G' H H' : Hp}
end
section
variable {b : Bg} {K : PySem.W.Frag}
theorem KdOk.sub {k : Kd} {G H G' : Hp} {T : List Addr} (h : KdOk k H T) (s : Sub (ovl T G H) G') : KdOk k G' T := fun a ha => by
  have go : ∀ o, H a = some o → G' a = some o := fun o ho => s a o (by rw [ovl_in ha]; exact ho)
  rcases h a ha with ⟨vs, z, q⟩ | ⟨vs, z, q⟩ | ⟨vs, z, q⟩ | ⟨C, dx, vs, z, q⟩
  · exact .inl ⟨vs, go _ z, q⟩
  · exact .inr (.inl ⟨vs, go _ z, q⟩)
  · exact .inr (.inr (.inl ⟨vs, go _ z, q⟩))
  · exact .inr (.inr (.inr ⟨C, dx, vs, go _ z, q⟩))
/-- .. that may raise, while the trees are as they were handed over -/
abbrev Bg.lent (b : Bg) : Bg := ⟨none, b.W, fun x => b.xp x ∧ ∀ k, avF k x.2 = true, fun _ _ _ => True⟩
end
section
variable {X : Cx} {b : Bg}
end
end DL
/-! ### a ghost changes -/
namespace DL
open PySem L2 PyProof.Rows
section
variable {X : Cx} {b : Bg} {K : PySem.W.Frag}
theorem set_set {α : Type} {l : List α} {i : Nat} {x y : α} : (l.set i x).set i y = l.set i y := by
  apply List.ext_getElem?
  intro j
  rw [get_set, get_set, get_set, List.length_set]
  split <;> rfl
theorem repTf_get {G H : Hp} {f : Str} {x : OT} : ∀ {fs : List (Str × OT)} {vs : List (Str × V)}, RepTf K G H fs vs → fs.lookup f = some x → ∃ w, vs.lookup f = some w ∧ RepT K G H x w
  | [], _, _, h => by cases h
  | (k, y) :: fs, _, ⟨v, r, h1, h2, h3⟩, e => by
    subst h1
    cases q : (f == k) with
    | true =>
      rw [List.lookup_cons, q] at e
      cases e
      exact ⟨v, by rw [List.lookup_cons, q], h2⟩
    | false =>
      rw [List.lookup_cons, q] at e
      obtain ⟨w, z1, z2⟩ := repTf_get h3 e
      exact ⟨w, by rw [List.lookup_cons, q]; exact z1, z2⟩
end
end DL
/-! ### x.f = e, x.f.append(e), x.f.pop(), x.f = [..], x told by its ghost -/
namespace DL
open PySem L2 PyProof.Rows
section
variable {X : Cx} {b : Bg} {K : PySem.W.Frag}
theorem Good.gh {L : Lk} {G0 H0 G H : Hp} {σ : L2.St} {e : List Sl} (g : Good K b L G0 H0 G H σ e) {i j : Nat} {a C : Addr} {fs : List (Str × OT)} (hj : nth e j = .sh (.fn a)) (hi : nth e i = .tr (.obj a C fs)) :
    σ[j]? = some (some (.ref a)) ∧ e[i]? = some (.tr (.obj a C fs)) ∧ σ[i]? = some (some (.ref a)) ∧ (a :: OT.adf fs).Nodup ∧ ∃ dx vs, H a = some (.ins C dx vs) ∧ RepTf K G H fs vs := by
  obtain ⟨v, h1, h2⟩ := g.slot j _ (nth_get hj (by simp))
  have hi := nth_get hi (by simp)
  obtain ⟨v2, h3, hT⟩ := g.slot i _ hi
  obtain ⟨rfl, dx, vs, ha, hrf⟩ := hT.rep
  have ev : v = .ref a := h2
  subst ev
  exact ⟨h1, hi, h3, hT.nd, dx, vs, ha, hrf⟩
/-- the field's part, taken from the tree -/
theorem Good.part {L : Lk} {G0 H0 G H : Hp} {σ : L2.St} {e : List Sl} (g : Good K b L G0 H0 G H σ e) {i j : Nat} {a C p : Addr} {f : Str} {fs : List (Str × OT)} {xs : List D} (hj : nth e j = .sh (.fn a)) (hi : nth e i = .tr (.obj a C fs)) (hf : fs.lookup f = some (.lst p (xs.map .leaf))) :
    ∃ dx vs ws, H a = some (.ins C dx vs) ∧ vs.lookup f = some (.ref p) ∧ H p = some (.lst ws) ∧ RepL K G xs ws := by
  obtain ⟨_, _, _, _, dx, vs, ha, hrf⟩ := g.gh hj hi
  obtain ⟨w, hw, rfl, ws, hp, hl⟩ := repTf_get hrf hf
  exact ⟨dx, vs, ws, ha, hw, hp, leaf_repTs hl⟩
end
end DL
/-! ### defs and methods called with ghosts -/
namespace DL
open PySem L2 PyProof.Rows
section
variable {b : Bg} {K : PySem.W.Frag}
/-- which trees are handed, what comes back -/
def gh (f : FMX) (xp : XD → Prop) (ge : List Sl → Prop) (e : List Sl) (ds : List D) (P : R → List Sl → Prop) : Prop :=
  ∃ (gs : List Nat) (ts : List OT), gs.map (fun i => e[i]?) = ts.map (fun t => some (.tr t)) ∧ gs.Nodup ∧ ge e ∧ f ds ts (fun d ts' => P (.sh d) (setGs (unGs e gs) gs ts')) xp
end
section
variable {X : Cx} {b : Bg}
end
end DL
/-! ### C() that gives a tree; the tree goes behind the name -/
namespace DL
open PySem L2 PyProof.Rows
section
variable {X : Cx} {b : Bg} {K : PySem.W.Frag}
/-- a constructor whose __init__ is a def that is handed its object as a ghost -/
structure KnownMk (P : Program) (w : World) (K : PySem.W.Frag) (mg : Str → Option Value) (base : Heap) (x : Str) (C : Addr) (k : Nat) (ps : List Str) (f : FMX) : Prop where
  ex : ∃ g fd, FnOk P w K mg base (L2.CX P w) k g fd ps (spM K f) ∧ Mk K C g ∧ mg x = some (.ref C) ∧ Binds K fd ps []
end
end DL
/-! ### raise with ghosts about; raising calls over data with ghosts about -/
namespace DL
open PySem L2 PyProof.Rows
section
variable {X : Cx} {b : Bg}
end
end DL
/-! ### tried(lambda: ..) that changes ghosts -/
namespace DL
open PySem L2 PyProof.Rows PySem.Spec LamX
section
variable {X : Cx} {b : Bg} {K : PySem.W.Frag}
end
end DL
/-! ### min(xs); dicts of texts whose keys are tuples of ints: a tree of their own -/
namespace DL
open PySem L2 PyProof.Rows
section
variable {X : Cx} {b : Bg} {K : PySem.W.Frag}
def fMinI (d : D) (P : R → Prop) : Prop := ∃ ns : List Int, d = .lst (ns.map .int) ∧ 0 < ns.length ∧ ∀ m, m ∈ ns → (∀ y, y ∈ ns → m ≤ y) → P (.sh (.int m))
theorem lc_minI' : LC K (rMin K) fMinI := lc_minI
theorem d_minI {a : Expr} {u : DE} {p pos : Pos} (hm : X.mg "min" = none) (h1 : PD X b a u) (hc : X.calm = true := by rfl) (hg : Gl X "min" := by rfl) (hs : starEach (a :: []) X.env = (false, eval a X.env) :: starEach [] X.env := by rfl) (hpl : (backTo pos (starEach [] X.env)).any (·.1) = false := by rfl) :
    PD X b (.Call (.Name "min" p) [a] [] pos) (uB fMinI u) := d_b1 (cr_min hc) lc_minI' hm (by decide +kernel) h1 hg (hs := hs) (hpl := hpl)
end
/-! ### the dicts -/
def tGet (kvs : List (List Key × Str)) (k : List Key) : Option Str := (kvs.find? fun p => decide (p.1 = k)).map (·.2)
def tPut (kvs : List (List Key × Str)) (k : List Key) (v : Str) : List (List Key × Str) := if (kvs.any fun p => decide (p.1 = k)) = true then kvs.map (fun p => if p.1 = k then (p.1, v) else p) else kvs ++ [(k, v)]
abbrev tV (kvs : List (List Key × Str)) : List (List Key × V) := kvs.map fun p => (p.1, V.str p.2)
theorem tV_get (k : List Key) : ∀ kvs : List (List Key × Str), valV (tV kvs) k = (tGet kvs k).map V.str
  | [] => rfl
  | p :: kvs => by
    have ih := tV_get k kvs
    unfold valV tGet at ih ⊢
    show Option.map _ (List.find? _ ((p.1, V.str p.2) :: tV kvs)) = _
    by_cases h : p.1 = k
    · rw [List.find?_cons_of_pos (by exact decide_eq_true h), List.find?_cons_of_pos (by exact decide_eq_true h)]
      rfl
    · rw [List.find?_cons_of_neg (by exact (by simpa using h)), List.find?_cons_of_neg (by exact (by simpa using h))]
      exact ih
theorem tV_put (k : List Key) (v : Str) (kvs : List (List Key × Str)) : putK (tV kvs) k (.str v) = tV (tPut kvs k v) := by
  unfold putK tPut tV
  rw [List.any_map]
  by_cases h : (kvs.any fun p => decide (p.1 = k)) = true
  · rw [if_pos h, if_pos (by exact h), List.map_map, List.map_map]
    refine List.map_congr_left fun p _ => ?_
    show (if p.1 = k then (p.1, V.str v) else (p.1, V.str p.2)) = (fun p => (p.1, V.str p.2)) (if p.1 = k then (p.1, v) else p)
    by_cases e : p.1 = k
    · rw [if_pos e, if_pos e]
    · rw [if_neg e, if_neg e]
  · rw [if_neg h, if_neg (by exact h), List.map_append]
    rfl
section
variable {X : Cx} {b : Bg} {K : PySem.W.Frag}
/-- {}, to be a dict whose keys are tuples -/
def uDictT : DE := fun _ P => ∀ a, P (.tr (.dt a []))
theorem d_dictT {pos : Pos} : PD X b (.Dict [] [] pos) uDictT := by
  refine ⟨_, pe_dnewT, ?_⟩
  intro L G0 H0 G H σ e P Q g hu k p np
  refine k (.ref p) (.tr (.dt p [])) G _ (Stp.made g.ex np) ⟨rfl, ⟨rfl, upd_same⟩, by show [p].Nodup; simp, fun a ha => ?_⟩ (hu p)
  rw [List.mem_singleton.mp (show a ∈ [p] from ha)]
  exact ⟨g.nb np, np, g.ex.none np⟩
/-- tuple(xs), the tuple is new -/
def uTupT (u : DE) : DE := fun e P => u e fun r => ∃ xs, r.look = .lst xs ∧ ∀ p, P (.tr (.tup p (xs.map .leaf)))
theorem d_tupT {a : Expr} {u : DE} {p pos : Pos} (hm : X.mg "tuple" = none) (h1 : PD X b a u) (hg : Gl X "tuple" := by rfl) (hs : starEach (a :: []) X.env = (false, eval a X.env) :: starEach [] X.env := by rfl) : PD X b (.Call (.Name "tuple" p) [a] [] pos) (uTupT u) := by
  obtain ⟨t, pe, l⟩ := h1
  refine ⟨_, pe_tupleOf hg hm pe (na := hs), ?_⟩
  intro L G0 H0 G H σ e P Q g hu k
  refine l L G0 H0 G H σ e _ _ g hu fun v r G1 H1 s1 hr ⟨xs, ed, q⟩ => ?_
  have g1 := g.step s1
  have tp := hr.top g1
  rw [ed] at tp
  obtain ⟨a, vs, rfl, ha, hrep⟩ := tp
  refine .inl ⟨a, vs, rfl, SqL.of ha, fun p np => ?_⟩
  have sm := Stp.made (b := b) (o := .tup vs) g1.ex np
  refine k (.ref p) (.tr (.tup p (xs.map .leaf))) G1 _ (s1.trans sm) ⟨rfl, ⟨rfl, vs, upd_same, repTs_leaf hrep⟩, by show (p :: OT.ads (xs.map OT.leaf)).Nodup; rw [ads_leaf]; simp, fun c hc => ?_⟩ (q p)
  have hc : c ∈ p :: OT.ads (xs.map OT.leaf) := hc
  rw [ads_leaf] at hc
  rw [List.mem_singleton.mp hc]
  exact ⟨g1.nb np, s1.back _ (g1.nb np) np, g1.ex.none np⟩
/-- a slot's dict -/
theorem Good.dtAt {L : Lk} {G0 H0 G H : Hp} {σ : L2.St} {e : List Sl} (g : Good K b L G0 H0 G H σ e) {i : Nat} {a : Addr} {kvs : List (List Key × Str)} (h : nth e i = .tr (.dt a kvs)) : e[i]? = some (.tr (.dt a kvs)) ∧ σ[i]? = some (some (.ref a)) ∧ H a = some (.dT (tV kvs)) := by
  have hi := nth_get h (by simp)
  obtain ⟨v, h1, hT⟩ := g.slot i _ hi
  obtain ⟨rfl, h2⟩ := hT.rep
  exact ⟨hi, h1, h2⟩
/-- a slot's tuple of ints -/
theorem Good.tupAt {L : Lk} {G0 H0 G H : Hp} {σ : L2.St} {e : List Sl} (g : Good K b L G0 H0 G H σ e) {i : Nat} {a : Addr} {ns : List Int} (h : nth e i = .tr (.tup a ((ns.map D.int).map .leaf))) : e[i]? = some (.tr (.tup a ((ns.map D.int).map .leaf))) ∧ σ[i]? = some (some (.ref a)) ∧ H a = some (.tup ((ns.map (Sum.inl : Int → Key)).map kV)) := by
  have hi := nth_get h (by simp)
  obtain ⟨v, h1, hT⟩ := g.slot i _ hi
  obtain ⟨rfl, vs, h2, h3⟩ := hT.rep
  rw [repL_int (leaf_repTs h3)] at h2
  exact ⟨hi, h1, by rw [h2, List.map_map]; rfl⟩
abbrev kI (ns : List Int) : List Key := ns.map Sum.inl
/-- d.get(k, e): d a slot's dict, k a slot's tuple -/
def uGetT (i j : Nat) (ue : DE) : DE := fun e P => ∃ a kvs c ns, nth e i = .tr (.dt a kvs) ∧ nth e j = .tr (.tup c ((ns.map D.int).map .leaf)) ∧ ue e fun r => ∃ z, r = .sh (.str z) ∧ P (.sh (.str ((tGet kvs (kI ns)).getD z)))
theorem d_getT {x y : Str} {a : Expr} {ue : DE} {px py apos cpos : Pos} (i j : Nat) (hU : X.A.units + 1 < cLine) (h3 : PD X b a ue) (hN : X.N[i]? = some x := by rfl) (hv : Vis X.env.scope x := by first | exact Or.inl rfl | exact Or.inr (Or.inl rfl) | exact Or.inr (Or.inr rfl))
    (hN2 : X.N[j]? = some y := by rfl) (hv2 : Vis X.env.scope y := by first | exact Or.inl rfl | exact Or.inr (Or.inl rfl) | exact Or.inr (Or.inr rfl))
    (hd : (x == ("__debug__" : Str)) = false := by decide) (hcd : (x == ("__classdict__" : Str)) = false := by decide) (hd2 : (y == ("__debug__" : Str)) = false := by decide) (hcd2 : (y == ("__classdict__" : Str)) = false := by decide)
    (m : M2 X (.Name x px) "get" apos (.Name y py) a cpos := by exact ⟨rfl, rfl, rfl, rfl⟩) : PD X b (.Call (.Attribute (.Name x px) "get" apos) [.Name y py, a] [] cpos) (uGetT i j ue) := by
  obtain ⟨t3, p3, l3⟩ := h3
  refine ⟨_, pe_dget2 hU (pe_var hN hv hd hcd) (pe_var hN2 hv2 hd2 hcd2) p3 m, ?_⟩
  intro L G0 H0 G H σ e P Q g hu k
  obtain ⟨a, kvs, c, ns, h1, h2, hu⟩ := hu
  obtain ⟨_, q1, hH⟩ := g.dtAt h1
  obtain ⟨_, q2, _⟩ := g.tupAt h2
  refine ⟨_, q1, a, rfl, .inr ⟨_, .inl hH⟩, _, q2, ?_⟩
  refine l3 L G0 H0 G H σ e _ _ g hu fun v r G1 H1 s1 hr ⟨z, rz, hp⟩ => ?_
  subst rz
  obtain rfl : v = .str z := hr
  have g1 := g.step s1
  obtain ⟨_, _, hH1⟩ := g1.dtAt h1
  obtain ⟨_, _, hK1⟩ := g1.tupAt h2
  refine ⟨_, DGet.t hH1 hK1, ?_⟩
  rw [tV_get]
  refine k _ (.sh (.str ((tGet kvs (kI ns)).getD z))) G1 H1 s1 ?_ hp
  cases tGet kvs (kI ns) <;> rfl
/-- d[k] = e -/
def uPutT (i j : Nat) (u : DX) : DS := fun DD e => u e fun r e' => ∃ z, r = .sh (.str z) ∧ ∃ a kvs c ns, nth e' i = .tr (.dt a kvs) ∧ nth e' j = .tr (.tup c ((ns.map D.int).map .leaf)) ∧ kvs.length < 1000000 ∧ DD.nx (e'.set i (.tr (.dt a (tPut kvs (kI ns) z))))
theorem ds_putT {i j : Nat} {x y : Str} {a : Expr} {u : DX} {px py p2 pos : Pos} (hU : X.A.units + 1 < cLine) (h : PDX X b a u) (hN : X.N[i]? = some x := by rfl) (hv : Vis X.env.scope x := by first | exact Or.inl rfl | exact Or.inr (Or.inl rfl) | exact Or.inr (Or.inr rfl))
    (hN2 : X.N[j]? = some y := by rfl) (hv2 : Vis X.env.scope y := by first | exact Or.inl rfl | exact Or.inr (Or.inl rfl) | exact Or.inr (Or.inr rfl))
    (hd : (x == ("__debug__" : Str)) = false := by decide) (hcd : (x == ("__classdict__" : Str)) = false := by decide) (hd2 : (y == ("__debug__" : Str)) = false := by decide) (hcd2 : (y == ("__classdict__" : Str)) = false := by decide)
    (hs : swapsWith a (some (.Subscript (.Name x px) (.Name y py) p2)) pos.line X.env = pure false := by rfl) :
    PDS X b (.Assign [.Subscript (.Name x px) (.Name y py) p2] a pos) (uPutT i j u) := by
  obtain ⟨t, p, l⟩ := h
  refine ⟨_, ps_dput hU (pe_var hN hv hd hcd) (pe_var hN2 hv2 hd2 hcd2) p hs, ?_⟩
  intro L G0 H0 G H σ e DD EE g ok hu
  refine l L G0 H0 G H σ e _ _ g hu fun v r e' G' H' g' hr q => ?_
  obtain ⟨z, rfl, a, kvs, c, ns, h1, h2, hl, q⟩ := q
  obtain rfl : v = .str z := hr
  obtain ⟨hi, q1, hH⟩ := g'.dtAt h1
  obtain ⟨_, q2, hK⟩ := g'.tupAt h2
  refine ⟨_, q1, _, q2, a, _, rfl, DPut.t hH hK (by rw [List.length_map]; exact lt_line hl), ?_⟩
  rw [tV_put]
  refine ok.nx _ _ _ _ (g'.updT hi q1 (show a ∈ [a] by simp) (fun od u z => by rw [hH] at z; cases z) (t' := .dt a (tPut kvs (kI ns) z)) rfl rfl ⟨rfl, upd_same⟩) q
end
end DL
namespace SrtV
open PySem PySem.W PyProof.Rows L2 SrtO
section
variable {P : Program} {w : World} {A : Around} {E : Value → Shared → Prop} {s : Shared}
theorem walkRaw (hh : A.handled = none) (I d : Addr) (hne : d ≠ I) (es : Array DictEntry) (ep : Nat) :
    Walks P w A I [I, d] [I] es.size (fun i v => ∃ e, es[i]? = some e ∧ v = e.val) (fun i h => h.IsValIter I d i es.size ep ∧ h.DictRaw d es ep) where
  sub := fun b hb => by simp at hb; simp [hb]
  frame := fun _ _ _ st hk => ⟨st.1.at fun o e => hk I (by simp) o e, st.2.at fun o e => hk d (by simp) o e⟩
  item := fun i s Q E hi st hQ => by
    refine wpAny_pyNext_values_item_raw st.1 st.2 hi fun h' hit' hs' => ?_
    exact hQ _ h' s.toks ⟨es[i], by rw [Array.getElem?_eq_getElem hi], rfl⟩ ⟨hit', st.2.at fun o e => hs'.extBut d o hne e⟩ fun b o hb e => hs'.extBut b o (fun h => hb (by simp [h])) e
  done := fun s Q E st hQ => wpAny_pyNext_values_end_raw hh st.1 st.2 (Nat.le_refl _) fun h' he' => hQ h' s.toks fun b o hb e => he' b o (fun h => hb (by simp [h])) e
  self := fun _ _ _ _ st hQ => wpAny_pyIter_valiter st.1 hQ
theorem kdl_valRaw {d r : Addr} {es : Array DictEntry} {ep : Nat} : KdlSrc P w "dict_values" r d es.size (fun i v => ∃ e, es[i]? = some e ∧ v = e.val) (fun h => h.IsValuesView r d ∧ h.DictRaw d es ep) where
  type := fun _ hm => hm.1.typeIs
  there := fun _ hm => ⟨let ⟨_, ho, _⟩ := hm.1; Heap.lt_size ho, let ⟨_, ho, _⟩ := hm.2; Heap.lt_size ho⟩
  keep := fun _ _ hm hk => ⟨let ⟨o, ho, x⟩ := hm.1; ⟨o, hk r (.inl rfl) o ho, x⟩, hm.2.at fun o e => hk d (.inr rfl) o e⟩
  notList := by decide
  notTuple := by decide
  hint := fun _ _ _ _ hm hq => kdl_hint_values hm.1.typeIs hq
  iter := fun _ _ hh hm => ⟨_, _, (fun _ _ hq => wpAny_pyIter_values_raw hm.1 hm.2 hq), walkRaw hh _ d (Nat.ne_of_lt (let ⟨_, ho, _⟩ := hm.2; Heap.lt_size ho)) es ep, ⟨⟨_, Heap.get?_push_size _ rfl, rfl, rfl⟩, hm.2.at fun o e => Heap.get?_push_of_some _ e⟩⟩
theorem sorted_vals {r d : Addr} {es : Array DictEntry} {ep : Nat} {zs : List Str} {Q : Value → Shared → Prop} (hh : A.handled = none) (hv : s.heap.IsValuesView r d) (hm : s.heap.DictRaw d es ep) (hz : es.size < 64) (hn : es.size = zs.length)
    (hs : ∀ (i : Nat) (e : DictEntry), es[i]? = some e → ∃ a t, zs[i]? = some a ∧ e.val = Value.str a t)
    (q : ∀ (h1 h2 : Heap) (tk : Nat) l (out : Array Value) (c : Nat) (ys : List Str), (∀ b o, s.heap.get? b = some o → h1.get? b = some o) → (∀ b o, h1.get? b = some o → h2.get? b = some o) → h1.objs.size ≤ l → h2.get? l = some (seqObj "list" out c) → StrsAre out.toList ys → ys.Perm zs → sortedS ys = true → Q (.ref l) { s with heap := h2, toks := tk }) :
    wpAny (model P w) A (call (.builtin "sorted") [.ref r]) Q E s := by
  refine Calls.call_function_entry kind_sorted plain_sorted entry_sorted (args_sorted1 _) ?_
  unfold Builtin.«sorted»
  refine wpAny_bind (m := checkCount "sorted" 1 1 _) (wpAny_pure (wpAny_bind (kdu_collect (A := A.in1) kdl_valRaw hh ⟨hv, hm⟩ (by rw [sizeLine_eq]; omega) fun hp1 tk1 vs kp hi => ?_)))
  have hlen : vs.toList.length = es.size := by rw [Array.length_toList]; exact hi.1
  have hs : StrsAre vs.toList zs := by
    refine SM.strs_of (by rw [hlen, hn]) fun i a u h1 h2 => ?_
    obtain ⟨e, he, rfl⟩ := hi.2 i u (by simpa using h2)
    obtain ⟨a', t, h3, h4⟩ := hs i e he
    rw [h1] at h3
    cases h3
    exact ⟨t, h4⟩
  have fits : vs.toList.length ≤ sizeLine := by rw [hlen, sizeLine_eq]; omega
  refine wpAny_bind (wpAny_newList ?_ fits)
  have at1 : (hp1.push (seqObj "list" vs.toList.toArray 0)).get? hp1.objs.size = some (seqObj "list" vs.toList.toArray 0) := Heap.get?_push_size _ rfl
  refine wpAny_bind (wpAny_holding (wpAny_call_entry slot_list_sort ⟨_, at1, rfl⟩ entry_list_sort (list_sort_treeKAny strKind_oneLt at1 hs.keysOf (fun v₁ v₂ rest e => keyKind_strs (by rw [← e]; exact hs)) fits fun st hp hso => ⟨_, rfl, ?_⟩) (args_list_sort _)))
  obtain ⟨ys, o1, o2, o3⟩ := sorted_out_str hs hp hso
  obtain ⟨c, ac⟩ := sortedHeap_at (vs := vs.toList) (out := (arrOf st).map (·.2)) at1
  refine wpAny_pure ⟨_, rfl, q hp1 _ _ hp1.objs.size _ c ys kp (fun b u e => ?_) (Nat.le_refl _) ac o1 o2 o3⟩
  have old := e
  have lt := Heap.lt_size old
  show (sortedHeap (hp1.push (seqObj "list" vs.toList.toArray 0)) hp1.objs.size vs.toList _).get? b = some u
  rw [sortedHeap_old (Nat.ne_of_lt lt) (by rw [size_push']; exact Nat.lt_succ_of_lt lt)]
  exact Heap.get?_push_of_some _ old
end
end SrtV
namespace DL
open PySem PySem.Spec L2 PyProof.Rows
section
variable {X : Cx} {b : Bg} {K : PySem.W.Frag}
def tSortVT (td : TE) : TE := fun σ H Q => td σ H fun x H1 => ∃ (a : Addr) (kvs : List (List Key × Str)), x = V.ref a ∧ H1 a = some (.dT (tV kvs)) ∧ kvs.length < 64 ∧ ∀ (ys : List Str) p, ys.Perm (kvs.map (·.2)) → sortedS ys = true → H1 p = none → Q (.ref p) (upd H1 p (.lst (ys.map V.str)))
theorem kt_vals {H : Hp} : ∀ {kvs : List (List Key × Str)} {xs : List (List Key × Addr × Value)}, KT H (tV kvs) xs → ∀ (i : Nat) (x : List Key × Addr × Value), xs[i]? = some x → ∃ a t, (kvs.map (·.2))[i]? = some a ∧ x.2.2 = Value.str a t
  | [], _, .nil, _, _, h => by simp at h
  | p :: kvs, _, .cons h t, 0, x, hx => by
    cases hx
    obtain ⟨_, _, t', ht⟩ := h
    exact ⟨p.2, t', rfl, ht⟩
  | p :: kvs, _, .cons h t, i + 1, x, hx => by
    obtain ⟨a, t', h1, h2⟩ := kt_vals t i x (by simpa using hx)
    exact ⟨a, t', by simpa using h1, h2⟩
theorem pe_sortVT {o : Expr} {p pos apos mpos : Pos} {td : TE} (hc : X.calm = true) (hg : Gl X "sorted") (hm : X.mg "sorted" = none) (hd : PE X o td) (hbase : attributeBase o "values" X.env (eval o X.env) = eval o X.env := by rfl) (hline : (apos.endLine == mpos.line) = true := by rfl)
    (hse : starEach [Expr.Call (.Attribute o "values" apos) [] [] mpos] X.env = [(false, eval (Expr.Call (.Attribute o "values" apos) [] [] mpos) X.env)] := by rfl) :
    PE X (.Call (.Name "sorted" p) [.Call (.Attribute o "values" apos) [] [] mpos] [] pos) (tSortVT td) := by
  refine ⟨fun pins s σ H Q I h => ?_⟩
  refine wpAny_Call_Name_kw (ld_blt I hg hm (u := .builtin "sorted") (by first | rfl | decide +kernel) ?_ (by first | decide +kernel | decide) (by first | decide +kernel | decide))
  rw [hse]
  refine PySem.callWith_builtin1 (wpAny_Call_method0_late hbase hline (thn (hd.run pins s σ H _ I h) fun v s1 ⟨x, H1, I1, r1, a, kvs, ex, ha, hz, q⟩ => ?_))
  subst ex
  obtain rfl : v = Value.ref a := r1
  obtain ⟨_, hsys, xs, rel, ob, es, ep, ho, ex, hdat, hes, _, _⟩ := dt_of I1.hok ha
  refine ⟨"dict", "dict.values", F.plainAttrs_dict, F.slot_dict_values, F.type_dict_values, ⟨ob, ho, ex.1⟩, fun b e => ?_, Calls.callWith_builtin rfl (PySem.evalArgs_none ?_)⟩
  · cases e
    exact ⟨ob, ho, ex.2.1⟩
  have raw : s1.heap.DictRaw a es ep := ⟨ob, ho, ex, hdat⟩
  refine call_meetsIn F.slot_dict_values ⟨ob, ho, ex.1⟩ F.entry_dict_values (F.args_dict_values_1 _) (meets_dict_values_raw a hsys) ⟨⟨es, ep, raw⟩, ?_⟩
  have k1 : ∀ b u, s1.heap.get? b = some u → (s1.heap.push { cls := .type "dict_values", data := .fields #[.ref a] }).get? b = some u := fun b u e => Heap.get?_push_of_some _ e
  have hlen : es.size = xs.length := by rw [← Array.length_toList, hes, List.length_map]
  have hlx : (tV kvs).length = xs.length := Paired.length rel
  rw [List.length_map] at hlx
  refine SrtV.sorted_vals (I.ok.hd hc) (r := s1.heap.objs.size) (d := a) (zs := kvs.map (·.2)) ⟨_, Heap.get?_push_size _ rfl, rfl, rfl⟩ (raw.at (k1 a)) (by omega) (by rw [List.length_map]; omega) (fun i e he => ?_) fun h1 h2 tk l out c ys k2 k3 up get hs pm so => ?_
  · rw [← Array.getElem?_toList, hes, List.getElem?_map] at he
    obtain ⟨x, hx, rfl⟩ := Option.map_eq_some_iff.mp he
    exact kt_vals rel i x hx
  have I2 : Inv X pins σ H1 { s1 with heap := h1, toks := tk } := I1.kept (t' := tk) fun b u e => k2 b u (k1 b u e)
  have hl : (ys.map V.str).length ≤ sizeLine := by
    rw [List.length_map, pm.length_eq, List.length_map, sizeLine_eq]
    omega
  exact ⟨.ref l, _, I2.laid (a := l) (o := .lst (ys.map V.str)) (t' := tk) k3 up ⟨hl, out.toList, c, vals_of_strs hs, get⟩, rfl, q ys l pm so (I2.hok.fresh up)⟩
/-- sorted(d.values()), d a slot's dict -/
def uSortVT (i : Nat) : DE := fun e P => ∃ a kvs, nth e i = .tr (.dt a kvs) ∧ kvs.length < 64 ∧ P (.ow (.lst ((srtS (kvs.map (·.2))).map .str)))
theorem d_sortVT {x : Str} {px p pos apos mpos : Pos} (i : Nat) (hm : X.mg "sorted" = none) (hc : X.calm = true := by rfl) (hg : Gl X "sorted" := by rfl) (hN : X.N[i]? = some x := by rfl) (hv : Vis X.env.scope x := by first | exact Or.inl rfl | exact Or.inr (Or.inl rfl) | exact Or.inr (Or.inr rfl))
    (hd : (x == ("__debug__" : Str)) = false := by decide) (hcd : (x == ("__classdict__" : Str)) = false := by decide)
    (hbase : attributeBase (.Name x px) "values" X.env (eval (.Name x px) X.env) = eval (.Name x px) X.env := by rfl) (hline : (apos.endLine == mpos.line) = true := by rfl)
    (hse : starEach [Expr.Call (.Attribute (.Name x px) "values" apos) [] [] mpos] X.env = [(false, eval (Expr.Call (.Attribute (.Name x px) "values" apos) [] [] mpos) X.env)] := by rfl) :
    PD X b (.Call (.Name "sorted" p) [.Call (.Attribute (.Name x px) "values" apos) [] [] mpos] [] pos) (uSortVT i) := by
  refine ⟨_, pe_sortVT hc hg hm (pe_var hN hv hd hcd) hbase hline hse, ?_⟩
  intro L G0 H0 G H σ e P Q g hu k
  obtain ⟨a, kvs, h1, hz, hp⟩ := hu
  obtain ⟨_, q1, hH⟩ := g.dtAt h1
  refine ⟨_, q1, a, kvs, rfl, hH, hz, fun ys p pm so np => ?_⟩
  rw [← srtS_eq pm (sortedS_pw so)] at hp
  exact g.newL (repL_strs' _) hp k p np
end
end DL
namespace Tm
open PySem L2 DL PyProof.Rows
local macro_rules | `(tactic| walk_at "dl") => `(tactic| try dsimp only [DL.uRaise, DL.uRemS, DL.uOp1X, DL.uOp2X, DL.uInC, DL.uOwnNe, DL.uLendP, DL.e_ws1, DL.e_ws2, DL.e_ws3, DL.e_ws4, DL.uOwnN, DL.uInVal, DL.uAugI, DL.uDisp1, DL.vC, DL.uRevTl, DL.uOwnB, DL.uMethX, DL.uMakeX, DL.uCallS, DL.e_aslt21, DL.e_aslt22, DL.uEnumS, DL.e_asSE, DL.uCallX, DL.uXf, DL.uTried, DL.e_hm0, DL.e_hm1, DL.e_hsh, DL.e_hun, DL.e_hown, DL.e_hbag, DL.uFldC, DL.uMakeV, DL.uMake, DL.uCMeth, DL.uKdS, DL.uKdT, DL.uSeq, DL.uIf, DL.uSet, DL.uOwn, DL.uX, DL.uBin, DL.uVar, DL.uC, DL.uTest, DL.uAnd, DL.uOr, DL.uNot, DL.uAndV, DL.uOrV, DL.uNotV, DL.uIfE, DL.uTru, DL.uCons, DL.uNil, DL.uLst, DL.uTup, DL.uNo, DL.uPart, DL.uSl, DL.uB, DL.uM1, DL.uCall, DL.uCallB, DL.uNext, DL.uRet, DL.uRetN, DL.uDrop, DL.uBrk, DL.uCnt, DL.uApp, DL.uPop, DL.uPopAt, DL.uSetIx, DL.uPar, DL.uFrz, DL.uFor, DL.uMerge1, DL.uCMethX, DL.uCMethK, DL.uInOwn, DL.uPar3o, DL.uMethK, DL.uItL, DL.uItT, DL.uItS, DL.uR1, DL.uR2, DL.uEnum, DL.uZip, DL.gNm, DL.uAsg, DL.uWhile, DL.uLc, DL.uDispG, DL.uTup3, DL.uTake, DL.e_ret4, DL.uPsC, DL.uPs0, DL.e_asK1, DL.e_asK2, DL.uYes, DL.wipeE, DL.env0, DL.envB, DL.uRev, DL.uNeg, DL.uIsi, DL.uIsi2, DL.uCut, DL.uNever, DL.e_nth0, DL.e_nth1, DL.e_nth2, DL.e_nth3, DL.e_nth4, DL.e_nth5, DL.e_nth6, DL.e_nth7, DL.e_nth8, DL.e_nth9, DL.e_nth10, DL.e_nth11, DL.e_nth12, DL.e_nth13, DL.e_nth14, DL.e_nth15, DL.e_nth16, DL.e_nth17, DL.e_nth18, DL.e_nth19, DL.e_nth20, DL.e_nth21, DL.e_nth22, DL.e_nth23, DL.e_nth24, DL.e_nth25, DL.e_set0, DL.e_set1, DL.e_set2, DL.e_set3, DL.e_set4, DL.e_set5, DL.e_set6, DL.e_set7, DL.e_set8, DL.e_set9, DL.e_set10, DL.e_set11, DL.e_set12, DL.e_set13, DL.e_set14, DL.e_set15, DL.e_set16, DL.e_set17, DL.e_set18, DL.e_set19, DL.e_set20, DL.e_set21, DL.e_set22, DL.e_set23, DL.e_set24, DL.e_set25, DL.e_look1, DL.e_look2, DL.e_look3, DL.e_keep1, DL.e_keep2, DL.e_ret1, DL.e_ret2, DL.e_ret3, DL.e_od1, DL.e_od2, DL.e_od3, DL.e_asB, DL.e_asL, DL.e_asT, DL.e_asS, DL.e_asI, DL.e_add1, DL.e_add2, DL.e_add3, DL.e_add4, DL.e_fSub, DL.e_fAnd, DL.e_fXor, DL.e_fMul, DL.e_fMod, DL.e_fDiv, DL.e_fPow, DL.e_fLt, DL.e_fLe, DL.e_fLeI, DL.e_fGt, DL.e_fGe, DL.e_ltS, DL.e_eq_int, DL.e_ne_int, DL.e_eq_str, DL.e_ne_str, DL.e_eq_bl, DL.e_ne_bl, DL.e_eqx91, DL.e_nex92, DL.e_eqx93, DL.e_nex94, DL.e_eqx95, DL.e_nex96, DL.e_eqx97, DL.e_nex98, DL.e_eqx99, DL.e_nex100, DL.e_is, DL.e_isnot, DL.e_isn0, DL.e_isn1, DL.e_isn2, DL.e_isn3, DL.e_isn4, DL.e_isn5, DL.e_isn6, DL.e_isn7, DL.e_isn8, DL.e_fIn1, DL.e_fIn2, DL.e_fIn3, DL.e_fNotIn1, DL.e_fNotIn2, DL.e_fNotIn3, DL.e_sl1, DL.e_sl2, DL.e_sl3, DL.e_len1, DL.e_len2, DL.e_len3, DL.e_int1, DL.e_int2, DL.e_list1, DL.e_list2, DL.e_list3, DL.e_tru1, DL.e_tru2, DL.e_tru3, DL.e_tru4, DL.e_tru5, DL.e_tru6, DL.e_ix_lst0, DL.e_ix_tup0, DL.e_ix_lst1, DL.e_ix_tup1, DL.e_ix_lst2, DL.e_ix_tup2, DL.e_ix_lst3, DL.e_ix_tup3, DL.e_ix_lst4, DL.e_ix_tup4, DL.e_ix_lst5, DL.e_ix_tup5, DL.e_ix_lst6, DL.e_ix_tup6, DL.e_ix_lst7, DL.e_ix_tup7, DL.e_gtp, DL.e_gsc, DL.e_gsn, DL.e_into1, DL.e_into2, DL.e_into3, DL.e_ty0, DL.e_ty1, DL.e_ty2, DL.e_ty3, DL.e_ty4, DL.e_ty5, DL.e_ty6, DL.e_tyis_non_non, DL.e_tyis_non_bl, DL.e_tyis_non_int, DL.e_tyis_non_str, DL.e_tyis_non_lst, DL.e_tyis_non_tup, DL.e_tyis_non_dk, DL.e_tyis_bl_non, DL.e_tyis_bl_bl, DL.e_tyis_bl_int, DL.e_tyis_bl_str, DL.e_tyis_bl_lst, DL.e_tyis_bl_tup, DL.e_tyis_bl_dk, DL.e_tyis_int_non, DL.e_tyis_int_bl, DL.e_tyis_int_int, DL.e_tyis_int_str, DL.e_tyis_int_lst, DL.e_tyis_int_tup, DL.e_tyis_int_dk, DL.e_tyis_str_non, DL.e_tyis_str_bl, DL.e_tyis_str_int, DL.e_tyis_str_str, DL.e_tyis_str_lst, DL.e_tyis_str_tup, DL.e_tyis_str_dk, DL.e_tyis_lst_non, DL.e_tyis_lst_bl, DL.e_tyis_lst_int, DL.e_tyis_lst_str, DL.e_tyis_lst_lst, DL.e_tyis_lst_tup, DL.e_tyis_lst_dk, DL.e_tyis_tup_non, DL.e_tyis_tup_bl, DL.e_tyis_tup_int, DL.e_tyis_tup_str, DL.e_tyis_tup_lst, DL.e_tyis_tup_tup, DL.e_tyis_tup_dk, DL.e_tyis_dk_non, DL.e_tyis_dk_bl, DL.e_tyis_dk_int, DL.e_tyis_dk_str, DL.e_tyis_dk_lst, DL.e_tyis_dk_tup, DL.e_tyis_dk_dk, DL.e_orF, DL.e_zip1, DL.e_zip2, DL.e_slv1, DL.e_slv2, DL.e_itet, DL.e_itef, DL.e_dtt, DL.e_dff, DL.e_dtf, DL.e_dft, DL.e_nt, DL.e_nf, DL.e_off, DL.e_oft, DL.e_otf, DL.e_ott, List.map, List.replicate, List.length, List.append, List.tail, List.cons_append, List.nil_append, List.append_nil, List.length_cons, List.length_nil, Nat.reduceAdd, Nat.reduceSub, DL.e_gtpl, DL.uRevS, DL.uItQ, DL.e_asQ1, DL.e_asQ2, DL.e_asQ3, DL.e_at1, DL.e_at2, DL.e_at3, DL.e_in1, DL.e_in2, DL.e_in3, DL.e_nin1, DL.e_nin2, DL.e_nin3, DL.uML, DL.uFld, DL.uMeth, DL.uMake, DL.uPutF, DL.uPut, DL.uGet2, DL.uItK, DL.vVar, DL.uCallO, DL.uDict0, DL.uDc, DL.uItW, DL.vAt, DL.vFld, DL.u2B, DL.uChn, DL.e_lenU1, DL.e_lenU2, DL.e_lenU3, DL.e_lenU4, DL.e_listU1, DL.e_listU2, DL.e_listU3, DL.e_listU4, DL.uPar3, DL.uCallP, DL.uCallBP, DL.uCallK, DL.e_kput1, DL.e_into4, DL.e_into5, DL.uLend, DL.e_kput2, DL.uEnumQ, DL.e_aslt1, DL.e_aslt2, DL.uPopD, DL.uBinR, DL.uBinL, DL.uProp, DL.uBK, DL.fOwnS, DL.fOwnI, DL.uFmt, DL.uJoined, DL.e_js0, DL.e_js1, DL.uSumV, DL.fStrI, DL.uClrD, DL.uClr, DL.uTmpApp, DL.uTmpClr, DL.uMakeL, DL.uRevT, DL.uSetT, DL.uAppT, DL.uLendT, DL.uFzR, DL.e_td3, DL.e_ws5])
local macro_rules | `(tactic| walk_at "dm") => `(tactic| try dsimp only [DL.uRaise, DL.uRemS, DL.uOp1X, DL.uOp2X, DL.uInC, DL.uOwnNe, DL.uLendP, DL.e_ws1, DL.e_ws2, DL.e_ws3, DL.e_ws4, DL.uOwnN, DL.uInVal, DL.uAugI, DL.uDisp1, DL.vC, DL.uRevTl, DL.uOwnB, DL.uMethX, DL.uMakeX, DL.uCallS, DL.e_aslt21, DL.e_aslt22, DL.uEnumS, DL.e_asSE, DL.uCallX, DL.uXf, DL.uTried, DL.e_hm0, DL.e_hm1, DL.e_hsh, DL.e_hun, DL.e_hown, DL.e_hbag, DL.uFldC, DL.uMakeV, DL.uMake, DL.uCMeth, DL.uKdS, DL.uKdT, DL.uSeq, DL.uIf, DL.uSet, DL.uOwn, DL.uX, DL.uBin, DL.uVar, DL.uC, DL.uTest, DL.uAnd, DL.uOr, DL.uNot, DL.uAndV, DL.uOrV, DL.uNotV, DL.uIfE, DL.uTru, DL.uCons, DL.uNil, DL.uLst, DL.uTup, DL.uNo, DL.uPart, DL.uSl, DL.uB, DL.uM1, DL.uCall, DL.uCallB, DL.uNext, DL.uRet, DL.uRetN, DL.uDrop, DL.uBrk, DL.uCnt, DL.uApp, DL.uPop, DL.uPopAt, DL.uSetIx, DL.uPar, DL.uFrz, DL.uMerge1, DL.uCMethX, DL.uCMethK, DL.uInOwn, DL.uPar3o, DL.uMethK, DL.uItL, DL.uItT, DL.uItS, DL.uR1, DL.uR2, DL.uEnum, DL.uZip, DL.gNm, DL.uAsg, DL.uWhile, DL.uDispG, DL.uTup3, DL.uTake, DL.e_ret4, DL.uPsC, DL.uPs0, DL.e_asK1, DL.e_asK2, DL.uYes, DL.wipeE, DL.env0, DL.envB, DL.uRev, DL.uNeg, DL.uIsi, DL.uIsi2, DL.uCut, DL.uNever, DL.e_nth0, DL.e_nth1, DL.e_nth2, DL.e_nth3, DL.e_nth4, DL.e_nth5, DL.e_nth6, DL.e_nth7, DL.e_nth8, DL.e_nth9, DL.e_nth10, DL.e_nth11, DL.e_nth12, DL.e_nth13, DL.e_nth14, DL.e_nth15, DL.e_nth16, DL.e_nth17, DL.e_nth18, DL.e_nth19, DL.e_nth20, DL.e_nth21, DL.e_nth22, DL.e_nth23, DL.e_nth24, DL.e_nth25, DL.e_set0, DL.e_set1, DL.e_set2, DL.e_set3, DL.e_set4, DL.e_set5, DL.e_set6, DL.e_set7, DL.e_set8, DL.e_set9, DL.e_set10, DL.e_set11, DL.e_set12, DL.e_set13, DL.e_set14, DL.e_set15, DL.e_set16, DL.e_set17, DL.e_set18, DL.e_set19, DL.e_set20, DL.e_set21, DL.e_set22, DL.e_set23, DL.e_set24, DL.e_set25, DL.e_look1, DL.e_look2, DL.e_look3, DL.e_keep1, DL.e_keep2, DL.e_ret1, DL.e_ret2, DL.e_ret3, DL.e_od1, DL.e_od2, DL.e_od3, DL.e_asB, DL.e_asL, DL.e_asT, DL.e_asS, DL.e_asI, DL.e_add1, DL.e_add2, DL.e_add3, DL.e_add4, DL.e_fSub, DL.e_fAnd, DL.e_fXor, DL.e_fMul, DL.e_fMod, DL.e_fDiv, DL.e_fPow, DL.e_fLt, DL.e_fLe, DL.e_fLeI, DL.e_fGt, DL.e_fGe, DL.e_ltS, DL.e_eq_int, DL.e_ne_int, DL.e_eq_str, DL.e_ne_str, DL.e_eq_bl, DL.e_ne_bl, DL.e_eqx91, DL.e_nex92, DL.e_eqx93, DL.e_nex94, DL.e_eqx95, DL.e_nex96, DL.e_eqx97, DL.e_nex98, DL.e_eqx99, DL.e_nex100, DL.e_is, DL.e_isnot, DL.e_isn0, DL.e_isn1, DL.e_isn2, DL.e_isn3, DL.e_isn4, DL.e_isn5, DL.e_isn6, DL.e_isn7, DL.e_isn8, DL.e_fIn1, DL.e_fIn2, DL.e_fIn3, DL.e_fNotIn1, DL.e_fNotIn2, DL.e_fNotIn3, DL.e_sl1, DL.e_sl2, DL.e_sl3, DL.e_len1, DL.e_len2, DL.e_len3, DL.e_int1, DL.e_int2, DL.e_list1, DL.e_list2, DL.e_list3, DL.e_tru1, DL.e_tru2, DL.e_tru3, DL.e_tru4, DL.e_tru5, DL.e_tru6, DL.e_ix_lst0, DL.e_ix_tup0, DL.e_ix_lst1, DL.e_ix_tup1, DL.e_ix_lst2, DL.e_ix_tup2, DL.e_ix_lst3, DL.e_ix_tup3, DL.e_ix_lst4, DL.e_ix_tup4, DL.e_ix_lst5, DL.e_ix_tup5, DL.e_ix_lst6, DL.e_ix_tup6, DL.e_ix_lst7, DL.e_ix_tup7, DL.e_gtp, DL.e_gsc, DL.e_gsn, DL.e_into1, DL.e_into2, DL.e_into3, DL.e_ty0, DL.e_ty1, DL.e_ty2, DL.e_ty3, DL.e_ty4, DL.e_ty5, DL.e_ty6, DL.e_tyis_non_non, DL.e_tyis_non_bl, DL.e_tyis_non_int, DL.e_tyis_non_str, DL.e_tyis_non_lst, DL.e_tyis_non_tup, DL.e_tyis_non_dk, DL.e_tyis_bl_non, DL.e_tyis_bl_bl, DL.e_tyis_bl_int, DL.e_tyis_bl_str, DL.e_tyis_bl_lst, DL.e_tyis_bl_tup, DL.e_tyis_bl_dk, DL.e_tyis_int_non, DL.e_tyis_int_bl, DL.e_tyis_int_int, DL.e_tyis_int_str, DL.e_tyis_int_lst, DL.e_tyis_int_tup, DL.e_tyis_int_dk, DL.e_tyis_str_non, DL.e_tyis_str_bl, DL.e_tyis_str_int, DL.e_tyis_str_str, DL.e_tyis_str_lst, DL.e_tyis_str_tup, DL.e_tyis_str_dk, DL.e_tyis_lst_non, DL.e_tyis_lst_bl, DL.e_tyis_lst_int, DL.e_tyis_lst_str, DL.e_tyis_lst_lst, DL.e_tyis_lst_tup, DL.e_tyis_lst_dk, DL.e_tyis_tup_non, DL.e_tyis_tup_bl, DL.e_tyis_tup_int, DL.e_tyis_tup_str, DL.e_tyis_tup_lst, DL.e_tyis_tup_tup, DL.e_tyis_tup_dk, DL.e_tyis_dk_non, DL.e_tyis_dk_bl, DL.e_tyis_dk_int, DL.e_tyis_dk_str, DL.e_tyis_dk_lst, DL.e_tyis_dk_tup, DL.e_tyis_dk_dk, DL.e_orF, DL.e_zip1, DL.e_zip2, DL.e_slv1, DL.e_slv2, DL.e_itet, DL.e_itef, DL.e_dtt, DL.e_dff, DL.e_dtf, DL.e_dft, DL.e_nt, DL.e_nf, DL.e_off, DL.e_oft, DL.e_otf, DL.e_ott, List.map, List.replicate, List.length, List.append, List.tail, List.cons_append, List.nil_append, List.append_nil, List.length_cons, List.length_nil, Nat.reduceAdd, Nat.reduceSub, DL.e_gtpl, DL.uRevS, DL.uItQ, DL.e_asQ1, DL.e_asQ2, DL.e_asQ3, DL.e_at1, DL.e_at2, DL.e_at3, DL.e_in1, DL.e_in2, DL.e_in3, DL.e_nin1, DL.e_nin2, DL.e_nin3, DL.uML, DL.uFld, DL.uMeth, DL.uMake, DL.uPutF, DL.uPut, DL.uGet2, DL.uItK, DL.vVar, DL.uCallO, DL.uDict0, DL.uItW, DL.vAt, DL.vFld, DL.u2B, DL.uChn, DL.e_lenU1, DL.e_lenU2, DL.e_lenU3, DL.e_lenU4, DL.e_listU1, DL.e_listU2, DL.e_listU3, DL.e_listU4, DL.uPar3, DL.uCallP, DL.uCallBP, DL.uCallK, DL.e_kput1, DL.e_into4, DL.e_into5, DL.uLend, DL.e_kput2, DL.uEnumQ, DL.e_aslt1, DL.e_aslt2, DL.uPopD, DL.uBinR, DL.uBinL, DL.uProp, DL.uBK, DL.fOwnS, DL.fOwnI, DL.uFmt, DL.uJoined, DL.e_js0, DL.e_js1, DL.uSumV, DL.fStrI, DL.uClrD, DL.uClr, DL.uTmpApp, DL.uTmpClr, DL.uMakeL, DL.uRevT, DL.uSetT, DL.uAppT, DL.uLendT, DL.uFzR, DL.e_td3, DL.e_ws5])
def top (i : Nat) : Stmt := PySem.Challenge.pw_threadmark_k33_blocks_of_webs.main.body.getD i (.Pass ⟨0, 0, 0, 0⟩)
abbrev s__law_bag : Stmt := top 25
theorem sc__law_bag : FnScope ["_law_script", "_law_salt", "_law_cell"] ["_law_script"] (defScope s__law_bag) := ⟨rfl, rfl, rfl, by decide +kernel, rfl, by decide +kernel, by decide +kernel⟩
abbrev s__law_pull : Stmt := top 26
theorem sc__law_pull : FnScope ["_law_bag_here", "_law_many", "_law_cell", "_law_digit", "_law_square"] ["_law_bag_here", "_law_many"] (defScope s__law_pull) := ⟨rfl, rfl, rfl, by decide +kernel, rfl, by decide +kernel, by decide +kernel⟩
abbrev s__law_mixed : Stmt := top 28
theorem sc__law_mixed : FnScope ["_law_bag_here", "_law_things", "_law_left", "_law_found", "_law_turn"] ["_law_bag_here", "_law_things"] (defScope s__law_mixed) := ⟨rfl, rfl, rfl, by decide +kernel, rfl, by decide +kernel, by decide +kernel⟩
abbrev s__law_letters : Stmt := top 30
theorem sc__law_letters : FnScope [] [] (defScope s__law_letters) := ⟨rfl, rfl, rfl, by decide +kernel, rfl, by decide +kernel, by decide +kernel⟩
abbrev s__law_raw : Stmt := top 31
theorem sc__law_raw : FnScope ["_law_bag_here", "_law_wide", "_law_many", "_law_size", "_law_points", "_law_marks", "_law_point", "_law_ends", "_law_most", "_law_letter", "_law_first", "_law_last"] ["_law_bag_here", "_law_wide", "_law_many"] (defScope s__law_raw) := ⟨rfl, rfl, rfl, by decide +kernel, rfl, by decide +kernel, by decide +kernel⟩
abbrev s_is_node_number : Stmt := top 18
theorem sc_is_node_number : FnScope ["node"] ["node"] (defScope s_is_node_number) := ⟨rfl, rfl, rfl, by decide +kernel, rfl, by decide +kernel, by decide +kernel⟩
abbrev s_is_edge_name : Stmt := top 19
theorem sc_is_edge_name : FnScope ["name"] ["name"] (defScope s_is_edge_name) := ⟨rfl, rfl, rfl, by decide +kernel, rfl, by decide +kernel, by decide +kernel⟩
abbrev s_check_parts : Stmt := top 20
theorem sc_check_parts : FnScope ["marks", "edges", "node", "name", "one", "other"] ["marks", "edges"] (defScope s_check_parts) := ⟨rfl, rfl, rfl, by decide +kernel, rfl, by decide +kernel, by decide +kernel⟩
abbrev s_Web___init__ : Stmt := inClass (top 23) 2
theorem sc_Web___init__ : FnScope ["self", "marks", "edges", "node", "name"] ["self", "marks", "edges"] (defScope s_Web___init__) := ⟨rfl, rfl, rfl, by decide +kernel, rfl, by decide +kernel, by decide +kernel⟩
abbrev s__law_web : Stmt := top 32
theorem sc__law_web : FnScope ["_law_raw_here"] ["_law_raw_here"] (defScope s__law_web) := ⟨rfl, rfl, rfl, by decide +kernel, rfl, by decide +kernel, by decide +kernel⟩
abbrev s__law_of : Stmt := top 27
theorem sc__law_of : FnScope ["_law_bag_here", "_law_things"] ["_law_bag_here", "_law_things"] (defScope s__law_of) := ⟨rfl, rfl, rfl, by decide +kernel, rfl, by decide +kernel, by decide +kernel⟩
abbrev s_Web_edges : Stmt := inClass (top 23) 13
theorem sc_Web_edges : FnScope ["self"] ["self"] (defScope s_Web_edges) := ⟨rfl, rfl, rfl, by decide +kernel, rfl, by decide +kernel, by decide +kernel⟩
abbrev s_Web_ends : Stmt := inClass (top 23) 15
theorem sc_Web_ends : FnScope ["self", "edge"] ["self", "edge"] (defScope s_Web_ends) := ⟨rfl, rfl, rfl, by decide +kernel, rfl, by decide +kernel, by decide +kernel⟩
abbrev s_Web_mark : Stmt := inClass (top 23) 14
theorem sc_Web_mark : FnScope ["self", "node"] ["self", "node"] (defScope s_Web_mark) := ⟨rfl, rfl, rfl, by decide +kernel, rfl, by decide +kernel, by decide +kernel⟩
abbrev s_Web_edges_of : Stmt := inClass (top 23) 16
theorem sc_Web_edges_of : FnScope ["self", "node", "name", "pair"] ["self", "node"] (defScope s_Web_edges_of) := ⟨rfl, rfl, rfl, by decide +kernel, rfl, by decide +kernel, by decide +kernel⟩
abbrev s_Web_other_end : Stmt := inClass (top 23) 17
theorem sc_Web_other_end : FnScope ["self", "edge", "node", "one", "other"] ["self", "edge", "node"] (defScope s_Web_other_end) := ⟨rfl, rfl, rfl, by decide +kernel, rfl, by decide +kernel, by decide +kernel⟩
abbrev s_reach_without : Stmt := top 12
theorem sc_reach_without : FnScope ["web", "start", "gone", "found", "line", "here", "edge", "there"] ["web", "start", "gone"] (defScope s_reach_without) := ⟨rfl, rfl, rfl, by decide +kernel, rfl, by decide +kernel, by decide +kernel⟩
abbrev s_Web_nodes : Stmt := inClass (top 23) 12
theorem sc_Web_nodes : FnScope ["self"] ["self"] (defScope s_Web_nodes) := ⟨rfl, rfl, rfl, by decide +kernel, rfl, by decide +kernel, by decide +kernel⟩
abbrev s_block_key : Stmt := top 13
theorem sc_block_key : FnScope ["web", "edge", "one", "other", "gone"] ["web", "edge"] (defScope s_block_key) := ⟨rfl, rfl, rfl, by decide +kernel, rfl, by decide +kernel, by decide +kernel⟩
abbrev s_blocks : Stmt := top 14
theorem sc_blocks : FnScope ["web", "groups", "edge", "key"] ["web"] (defScope s_blocks) := ⟨rfl, rfl, rfl, by decide +kernel, rfl, by decide +kernel, by decide +kernel⟩
abbrev s__law_same : Stmt := top 29
theorem sc__law_same : FnScope ["_law_found", "_law_due", "_law_one", "_law_other"] ["_law_found", "_law_due"] (defScope s__law_same) := ⟨rfl, rfl, rfl, by decide +kernel, rfl, by decide +kernel, by decide +kernel⟩
abbrev s_Web_empty : Stmt := inClass (top 23) 7
theorem sc_Web_empty : FnScope [] [] (defScope s_Web_empty) := ⟨rfl, rfl, rfl, by decide +kernel, rfl, by decide +kernel, by decide +kernel⟩
abbrev s_marks_of : Stmt := top 21
theorem sc_marks_of : FnScope ["count", "odd", "node"] ["count", "odd"] (defScope s_marks_of) := ⟨rfl, rfl, rfl, by decide +kernel, rfl, by decide +kernel, by decide +kernel⟩
abbrev s_named_pairs : Stmt := top 22
theorem sc_named_pairs : FnScope ["pairs", "at", "pair"] ["pairs"] (defScope s_named_pairs) := ⟨rfl, rfl, rfl, by decide +kernel, rfl, by decide +kernel, by decide +kernel⟩
abbrev s_Web_complete : Stmt := inClass (top 23) 8
theorem sc_Web_complete : FnScope ["cls", "count", "odd", "pairs", "one", "other"] ["cls", "count", "odd"] (defScope s_Web_complete) := ⟨rfl, rfl, rfl, by decide +kernel, rfl, by decide +kernel, by decide +kernel⟩
abbrev s__law_at : Stmt := top 33
theorem sc__law_at : FnScope ["_law_raw_here", "_law_point", "_law_letter"] ["_law_raw_here", "_law_point"] (defScope s__law_at) := ⟨rfl, rfl, rfl, by decide +kernel, rfl, by decide +kernel, by decide +kernel⟩
abbrev s__law_there : Stmt := top 34
theorem sc__law_there : FnScope ["_law_raw_here", "_law_letter", "_law_point", "_law_first", "_law_last"] ["_law_raw_here", "_law_letter", "_law_point"] (defScope s__law_there) := ⟨rfl, rfl, rfl, by decide +kernel, rfl, by decide +kernel, by decide +kernel⟩
abbrev s__law_left_part : Stmt := top 35
theorem sc__law_left_part : FnScope ["_law_raw_here", "_law_letter", "_law_gone", "_law_line", "_law_point", "_law_found", "_law_here", "_law_other", "_law_there_here"] ["_law_raw_here", "_law_letter", "_law_gone"] (defScope s__law_left_part) := ⟨rfl, rfl, rfl, by decide +kernel, rfl, by decide +kernel, by decide +kernel⟩
abbrev s__law_blocks : Stmt := top 36
theorem sc__law_blocks : FnScope ["_law_raw_here", "_law_found", "_law_letter", "_law_place", "_law_k", "_law_first", "_law_gone"] ["_law_raw_here"] (defScope s__law_blocks) := ⟨rfl, rfl, rfl, by decide +kernel, rfl, by decide +kernel, by decide +kernel⟩
abbrev s_law : Stmt := top 37
theorem sc_law : FnScope ["_law_script", "_law_bag_here", "_law_turn", "_law_raw_here", "_law_made", "_law_again", "_law_found"] ["_law_script"] (defScope s_law) := ⟨rfl, rfl, rfl, by decide +kernel, rfl, by decide +kernel, by decide +kernel⟩
structure Bt (mg : Str → Option Value) : Prop where
  all_ : mg "all" = none
  bool_ : mg "bool" = none
  dict_ : mg "dict" = none
  enumerate_ : mg "enumerate" = none
  int_ : mg "int" = none
  isinstance_ : mg "isinstance" = none
  len_ : mg "len" = none
  list_ : mg "list" = none
  max_ : mg "max" = none
  min_ : mg "min" = none
  range_ : mg "range" = none
  sorted_ : mg "sorted" = none
  str_ : mg "str" = none
  tuple_ : mg "tuple" = none
  zip_ : mg "zip" = none
  g_MAX_COMPLETE : ∃ u, mg "MAX_COMPLETE" = some u ∧ RelV (.int 7) u
  g_NAMES : ∃ u, mg "NAMES" = some u ∧ RelV (.str "abcdefghijklmnopqrstuvwx") u
structure WebC (K : PySem.W.Frag) (mg : Str → Option Value) (C : Addr) (mc : Value) : Prop where
  cl : Cls K C
  mgC : mg "Web" = some (.ref C)
  n_node_marks : NoAttr K C "node_marks"
  n_edge_ends : NoAttr K C "edge_ends"
  rd : ClX.CRead K C mc
  c_MAX_NODES : ∃ u, ClX.CVal K C mc "MAX_NODES" (.int 12) u
section
variable {P : Program} {w : World} {K : PySem.W.Frag} {mg : Str → Option Value} {base : Heap}
theorem cut_map (ns : List Int) (lo hi : Option Int) : ∃ ms : List Int, cutV (ns.map V.int) lo hi = ms.map V.int ∧ ms.length ≤ ns.length := by
  refine ⟨(ns.drop (HT.sIx ns.length 0 lo)).take (HT.sIx ns.length ns.length hi - HT.sIx ns.length 0 lo), ?_, ?_⟩
  · unfold cutV
    rw [List.length_map, List.map_take, List.map_drop]
  · rw [List.length_take, List.length_drop]
    omega
theorem ok__law_bag (B : Bt mg) (Hr : Here K mg "_law_bag" s__law_bag ["_law_script"]) : Known P w K mg base "_law_bag" 1 ["_law_script"] (spBag K) := by
  obtain ⟨f, fd, F, hm, hbi⟩ := Hr.ex
  refine ⟨f, fd, F.ok sc__law_bag (fun vs H Q E h => ?_) (fun cdv A outer s H vs Q E hr h => ?_), hm, F.kp, hbi⟩
  · obtain ⟨a, ns, rfl, _⟩ := h
    rfl
  · obtain ⟨a, ns, rfl, hS, hl, kk⟩ := h
    refine ⟨_, pss_cons (ps_set (i := 1) sc__law_bag.nd rfl (Or.inl rfl) pe_int)
      (pss_cons (ps_for PassesOwn.never rfl (pi_list (pe_slice sl_list (pv 0) po_none (po_some pe_int))) (pg_name (i := 2) sc__law_bag.nd rfl (Or.inl rfl))
        (pss_one (ps_set (i := 1) sc__law_bag.nd rfl (Or.inl rfl) (pe_op op_mod (pe_op op_add (pe_op op_add (pe_op op_mul (pv 1) pe_int) (pe_op op_mod (pv 2) pe_int)) pe_int) pe_int))))
      (pss_one (ps_ret (pe_lst (pa_cons (pe_callTy call_list_of (by rfl) B.list_ (by decide +kernel) (pa_cons (pe_slice sl_list (pv 0) po_none (po_some pe_int)) pa_nil)) (pa_cons pe_int (pa_cons pe_int (pa_cons (pv 1) pa_nil)))))))), ?_⟩
    obtain ⟨ms, hms, hml⟩ := cut_map ns none (some 63)
    refine ⟨_, rfl, 63, rfl, a, _, rfl, hS, fun p np => ?_⟩
    rw [hms]
    refine ⟨p, rfl, ⟨_, SqL.of upd_same⟩, for_list (K := K) (a := p) (xs := ms.map V.int) (fun i σ H' => ∃ (z : Int) (v : Option V), σ = [some (.ref a), some (.int z), v] ∧ 0 ≤ z ∧ z < 2147483549 ∧ Same (L2.upd H p (.lst (ms.map V.int))) H') ?_ ?_ ?_ ?_⟩
    · exact ⟨3808, none, rfl, by decide, by decide, Same.refl _⟩
    · rintro i σ H' _ ⟨z, v, _, _, _, sm⟩
      exact sm.seq (SqL.of upd_same)
    · rintro i x σ H' hx ⟨z, v, rfl, z0, z1, sm⟩
      obtain ⟨y, _, rfl⟩ : ∃ y, ms[i]? = some y ∧ x = V.int y := by
        rw [List.getElem?_map] at hx
        cases e : ms[i]? with
        | none => rw [e] at hx; cases hx
        | some y => rw [e] at hx; exact ⟨y, rfl, (Option.some.inj hx).symm⟩
      refine ⟨_, rfl, _, _, rfl, rfl, .inr ⟨by decide, by decide⟩, _, rfl, _, _, rfl, rfl, (by show (0 : Int) < 2147483549; decide), _, _, rfl, rfl, _, _, rfl, rfl, _, _, rfl, rfl, (by show (0 : Int) < 2147483549; decide), ?_⟩
      refine ⟨_, _, rfl, ?_, ?_, sm⟩
      · exact Int.emod_nonneg _ (by decide)
      · exact Int.emod_lt_of_pos _ (by decide)
    · rintro σ H' ⟨z, v, rfl, z0, z1, sm⟩
      have hS' : SqL K H' a (ns.map V.int) := sm.seq (Same.seq (fun c o h => by rw [upd_ne (ne_of_none h np)]; exact h) hS)
      refine ⟨_, rfl, 63, rfl, a, _, rfl, hS', fun p2 np2 => ?_⟩
      rw [hms]
      refine ⟨p2, _, rfl, .inl (SqL.of upd_same), fun l hl2 => ?_⟩
      refine ⟨_, rfl, by rw [sizeLine_eq]; show 4 ≤ 16777216; decide, fun q hq => ?_⟩
      refine kk _ q l ms z upd_same ?_ (Nat.le_trans hml hl) z0 z1
      rw [upd_ne (fun e => by subst e; rw [upd_same] at hq; cases hq), upd_same]
def U_law_pull_0_t_3_t_0 : DS := (uSetIx 0 (uC (.int 2)) (uX (uVar 2)))
def U_law_pull_0_t_3_e_0 : DS := (uSetIx 0 (uC (.int 3)) (uX (uBin fMod (uBin fAdd (uBin fAdd (uBin fMul (uBin fIx (uVar 0) (uC (.int 3))) (uC (.int 52571))) (uBin fMul (uBin fMod (uVar 2) (uC (.int 2147483549))) (uC (.int 41)))) (uC (.int 29))) (uC (.int 2147483549)))))
def U_law_pull_0_t_3 : DS := (uIf (uTest (uBin fGe (uVar 2) (uBin fPow (uC (.int 10)) (uC (.int 18))))) U_law_pull_0_t_3_t_0 U_law_pull_0_t_3_e_0)
def U_law_pull_0_t_2 : DS := uSeq (uSetIx 0 (uC (.int 2)) (uX (uC (.int 0)))) U_law_pull_0_t_3
def U_law_pull_0_t_1 : DS := uSeq (uSetIx 0 (uC (.int 1)) (uX (uBin fAdd (uBin fIx (uVar 0) (uC (.int 1))) (uC (.int 1))))) U_law_pull_0_t_2
def U_law_pull_0_t_0 : DS := uSeq (uSet 2 (uX (uBin fIx (uBin fIx (uVar 0) (uC (.int 0))) (uBin fIx (uVar 0) (uC (.int 1)))))) U_law_pull_0_t_1
def U_law_pull_1_t_2 : DS := (uRet (uX (uVar 3)))
def U_law_pull_1_t_1 : DS := uSeq (uSetIx 0 (uC (.int 2)) (uX (uBin fDiv (uBin fIx (uVar 0) (uC (.int 2))) (uVar 1)))) U_law_pull_1_t_2
def U_law_pull_1_t_0 : DS := uSeq (uSet 3 (uX (uBin fMod (uBin fIx (uVar 0) (uC (.int 2))) (uVar 1)))) U_law_pull_1_t_1
def U_law_pull_4 : DS := (uRet (uX (uBin fMod (uBin fAdd (uBin fDiv (uBin fIx (uVar 0) (uC (.int 3))) (uC (.int 53))) (uBin fMul (uBin fMod (uBin fIx (uVar 0) (uC (.int 3))) (uC (.int 7919))) (uC (.int 31)))) (uVar 1))))
def U_law_pull_3 : DS := uSeq (uSetIx 0 (uC (.int 3)) (uX (uBin fMod (uBin fAdd (uBin fAdd (uBin fMul (uVar 4) (uC (.int 40699))) (uBin fMul (uBin fIx (uVar 0) (uC (.int 3))) (uC (.int 30323)))) (uC (.int 12347))) (uC (.int 2147483549))))) U_law_pull_4
def U_law_pull_2 : DS := uSeq (uSet 4 (uX (uBin fMod (uBin fMul (uBin fIx (uVar 0) (uC (.int 3))) (uBin fIx (uVar 0) (uC (.int 3)))) (uC (.int 2147483549))))) U_law_pull_3
def U_law_pull_1 : DS := uSeq (uIf (uTest (uBin fGe (uBin fIx (uVar 0) (uC (.int 2))) (uVar 1))) U_law_pull_1_t_0 uNext) U_law_pull_2
def U_law_pull_0 : DS := uSeq (uIf (uAnd (uTest (uBin fLt (uBin fIx (uVar 0) (uC (.int 2))) (uVar 1))) (uTest (uBin fLt (uBin fIx (uVar 0) (uC (.int 1))) (uB fLen (uBin fIx (uVar 0) (uC (.int 0))))))) U_law_pull_0_t_0 uNext) U_law_pull_1
theorem pull_end {q : Option Addr} {ns : List Int} {i : Nat} {m z n : Int} {c : Sl} {DD : DEnds} (hB : BagD ns i m z) (n0 : 0 < n) (n1 : n ≤ 1000000)
    (k : ∀ (ns : List Int) (i : Nat) (m z j : Int) (r : List Sl), BagD ns i m z → 0 ≤ j → j < n → DD.rt (.sh (.int j)) (.own q (.lst (bagL ns i m z)) :: r)) : U_law_pull_1 DD [.own q (.lst (bagL ns i m z)), .sh (.int n), c, .un, .un] := by
  unfold bagL U_law_pull_1
  walk_at "dl"
  refine ite_dec (fun h => ?_) (fun h => ?_)
  · unfold U_law_pull_1_t_0 U_law_pull_1_t_1 U_law_pull_1_t_2
    walk_at "dl"
    refine ⟨n0, ⟨n0, by omega⟩, ⟨_, _, rfl⟩, 2, _, _, rfl, rfl, (by simp), ?_⟩
    walk_at "dl"
    refine k ns i (m / n) z (m % n) _ ⟨hB.hi, hB.hl, Int.ediv_nonneg hB.hm (by omega), hB.hz, hB.hz'⟩ (Int.emod_nonneg _ (by omega)) (Int.emod_lt_of_pos _ n0)
  · unfold U_law_pull_2 U_law_pull_3 U_law_pull_4
    walk_at "dl"
    have h1 := hB.hz
    have h2 := hB.hz'
    refine ⟨.inl ⟨by omega, by omega⟩, by decide, .inr ⟨by decide, by decide⟩, .inr ⟨by decide, by decide⟩, by decide, ⟨_, _, rfl⟩, 3, _, _, rfl, rfl, (by simp), ?_⟩
    walk_at "dl"
    refine ⟨⟨by decide, by decide⟩, by decide, .inr ⟨by decide, by decide⟩, n0, ?_⟩
    exact k ns i m _ _ _ ⟨hB.hi, hB.hl, hB.hm, Int.emod_nonneg _ (by decide), Int.emod_lt_of_pos _ (by decide)⟩ (Int.emod_nonneg _ (by omega)) (Int.emod_lt_of_pos _ n0)
theorem ok__law_pull (B : Bt mg) (Hr : Here K mg "_law_pull" s__law_pull ["_law_bag_here", "_law_many"]) : Known P w K mg base "_law_pull" 1 ["_law_bag_here", "_law_many"] (spB K fPull) := by
  obtain ⟨f, fd, F, hm, hbi⟩ := Hr.ex
  refine fn_pull (u := U_law_pull_0) F hm hbi sc__law_pull rfl ⟨3, rfl⟩ (fun cdv A outer s H E hr => (dss_cons
    (ds_if (PDW.pt (dw_and (dt_lt (d_ix (d_var 0) d_int) (d_var 1)) (dw_and1 (dt_lt (d_ix (d_var 0) d_int) (d_len B.len_ (d_ix (d_var 0) d_int)))))) (dss_cons
    (ds_set (i := 2) (PD.x (d_ix (d_ix (d_var 0) d_int) (d_ix (d_var 0) d_int))) sc__law_pull.nd) (dss_cons
    (ds_setIx (i := 0) d_int (PD.x (d_add (d_ix (d_var 0) d_int) d_int))) (dss_cons
    (ds_setIx (i := 0) d_int (PD.x d_int)) (dss_one
    (ds_if (dt_ge (d_var 2) (d_pow d_int d_int)) (dss_one
    (ds_setIx (i := 0) d_int (PD.x (d_var 2)))) (dss_one
    (ds_setIx (i := 0) d_int (PD.x (d_mod (d_add (d_add (d_mul (d_ix (d_var 0) d_int) d_int) (d_mul (d_mod (d_var 2) d_int) d_int)) d_int) d_int))))))))) dss_nil) (dss_cons
    (ds_if (dt_ge (d_ix (d_var 0) d_int) (d_var 1)) (dss_cons
    (ds_set (i := 3) (PD.x (d_mod (d_ix (d_var 0) d_int) (d_var 1))) sc__law_pull.nd) (dss_cons
    (ds_setIx (i := 0) d_int (PD.x (d_div (d_ix (d_var 0) d_int) (d_var 1)))) (dss_one
    (ds_ret (PD.x (d_var 3)))))) dss_nil) (dss_cons
    (ds_set (i := 4) (PD.x (d_mod (d_mul (d_ix (d_var 0) d_int) (d_ix (d_var 0) d_int)) d_int)) sc__law_pull.nd) (dss_cons
    (ds_setIx (i := 0) d_int (PD.x (d_mod (d_add (d_add (d_mul (d_var 4) d_int) (d_mul (d_ix (d_var 0) d_int) d_int)) d_int) d_int))) (dss_one
    (ds_ret (PD.x (d_mod (d_add (d_div (d_ix (d_var 0) d_int) d_int) (d_mul (d_mod (d_ix (d_var 0) d_int) d_int) d_int)) (d_var 1)))))))))) ?hu
  intro q ns i m z n hB n0 n1
  have fin : ∀ (ns : List Int) (i : Nat) (m z : Int) (c : Sl), BagD ns i m z → U_law_pull_1 ⟨fun _ => False, fun r e => ∃ ns i m z j, nth e 0 = .own q (.lst (bagL ns i m z)) ∧ BagD ns i m z ∧ r = .sh (.int j) ∧ 0 ≤ j ∧ j < n, fun _ => False, fun _ => False⟩ [.own q (.lst (bagL ns i m z)), .sh (.int n), c, .un, .un] :=
    fun ns i m z c hB => pull_end hB n0 n1 fun ns i m z j r hB j0 j1 => ⟨ns, i, m, z, j, rfl, hB, rfl, j0, j1⟩
  generalize hDD : (⟨fun _ => False, fun r e => ∃ ns i m z j, nth e 0 = .own q (.lst (bagL ns i m z)) ∧ BagD ns i m z ∧ r = .sh (.int j) ∧ 0 ≤ j ∧ j < n, fun _ => False, fun _ => False⟩ : DEnds) = DD at fin ⊢
  unfold bagL U_law_pull_0
  walk_at "dl"
  refine ite_dec (fun h1 => ite_dec (fun h2 => ?_) (fun _ => fin ns i m z _ hB)) (fun _ => fin ns i m z _ hB)
  unfold U_law_pull_0_t_0 U_law_pull_0_t_1 U_law_pull_0_t_2 U_law_pull_0_t_3
  rw [List.length_map] at h2
  have hi : i < ns.length := by omega
  walk_at "dl"
  refine ix_at (x := .int ns[i]) (by rw [List.getElem?_map]; simp [hi]) ?_
  have hB' : ∀ m z, 0 ≤ m → 0 ≤ z → z < 2147483549 → BagD ns (i + 1) m z := fun m z a b c => ⟨by omega, hB.hl, a, b, c⟩
  walk_at "dl"
  refine ⟨⟨_, _, rfl⟩, 1, _, _, rfl, rfl, (by simp), ?_⟩
  walk_at "dl"
  refine ⟨⟨_, _, rfl⟩, 2, _, _, rfl, rfl, (by simp), ?_⟩
  walk_at "dl"
  refine ⟨⟨by decide, by decide, by decide⟩, ite_dec (fun h3 => ?_) (fun h3 => ?_)⟩
  · unfold U_law_pull_0_t_3_t_0
    walk_at "dl"
    refine ⟨⟨_, _, rfl⟩, 2, _, _, rfl, rfl, (by simp), ?_⟩
    walk_at "dl"
    exact fin ns (i + 1) _ z _ (hB' _ _ (Int.le_trans (by decide) h3) hB.hz hB.hz')
  · unfold U_law_pull_0_t_3_e_0
    walk_at "dl"
    refine ⟨.inr ⟨by decide, by decide⟩, by decide, .inr ⟨by decide, by decide⟩, by decide, ⟨_, _, rfl⟩, 3, _, _, rfl, rfl, (by simp), ?_⟩
    walk_at "dl"
    exact fin ns (i + 1) 0 _ _ (hB' _ _ (by decide) (Int.emod_nonneg _ (by decide)) (Int.emod_lt_of_pos _ (by decide)))
def F__law_of : FS := fun ds P => ∃ xs : List D, (ds = [.lst xs] ∨ ds = [.tup xs]) ∧ 0 < xs.length ∧ xs.length ≤ 1000000 ∧ ∀ x ∈ xs, P (.sh x)
def U_law_of_0 : DS := (uRet (uX (uBin fIx (uVar 1) (uCallB fPull 0 (uCons (uB fLen (uVar 1)) uNil)))))
theorem ok__law_of (B : Bt mg) (K__law_pull : Known P w K mg base "_law_pull" 1 ["_law_bag_here", "_law_many"] (spB K fPull)) (Hr : Here K mg "_law_of" s__law_of ["_law_bag_here", "_law_things"]) : Known P w K mg base "_law_of" 2 ["_law_bag_here", "_law_things"] (spB K F__law_of) := by
  obtain ⟨f, fd, F, hm, hbi⟩ := Hr.ex
  refine fn_bag (u := U_law_of_0) F hm hbi sc__law_of ?len rfl (fun b cdv A outer s H E hr => (dss_one
    (ds_ret (PD.x (d_ix (d_var 1) (d_callB (i := 0) K__law_pull (hr.mono (by omega)) (da_cons (d_len B.len_ (d_var 1)) da_nil))))))) ?hu
  case len => rintro ds P ⟨xs, rfl | rfl, _⟩ <;> rfl
  case hu =>
    rintro ds P ⟨xs, rfl | rfl, h0, h1, k⟩
    · unfold U_law_of_0
      walk_at "dl"
      refine ⟨rfl, _, rfl, by omega, by omega, fun j j0 j1 => ?_⟩
      exact ix_mem j0 j1 k
    · unfold U_law_of_0
      walk_at "dl"
      refine ⟨rfl, _, rfl, by omega, by omega, fun j j0 j1 => ?_⟩
      exact ix_memT j0 j1 k
def F__law_letters : FS := fun ds P => ds = [] ∧ P (.sh (.str "abcdefghijklmnopqrstuvwx"))
def U_law_letters_0 : DS := (uRet (uX (uC (.str "abcdefghijklmnopqrstuvwx"))))
theorem ok__law_letters (B : Bt mg)  (Hr : Here K mg "_law_letters" s__law_letters []) : Known P w K mg base "_law_letters" 1 [] (spN K F__law_letters) := by
  obtain ⟨f, fd, F, hm, hbi⟩ := Hr.ex
  refine fn_data (u := U_law_letters_0) F hm hbi sc__law_letters ?len (fun cdv A outer s H E hr => (dss_one
    (ds_ret (PD.x d_str)))) ?hu
  case len => rintro ds P ⟨rfl, _⟩; rfl
  case hu =>
    rintro ds P ⟨rfl, k⟩
    unfold U_law_letters_0
    walk_at "dl"
    exact k
def F__law_mixed : FS := fun ds P => ∃ xs : List D, (ds = [.lst xs] ∨ ds = [.tup xs]) ∧ xs.length ≤ 100000 ∧ ∀ ys : List D, ys.Perm xs → P (.ow (.lst ys))
def U_law_mixed_1_b_0 : DS := (uApp 3 (uPopAt 2 (uCallB fPull 0 (uCons (uB fLen (uVar 2)) uNil))))
def U_law_mixed_2 : DS := (uRet (uX (uVar 3)))
def U_law_mixed_1 : DS := uSeq (uFor (uR1 (uCons (uB fLen (uVar 1)) uNil)) (gNm 4) U_law_mixed_1_b_0) U_law_mixed_2
def U_law_mixed_0 : DS := uSeq (uPar 2 3 true true (uB fList2 (uVar 1)) (uLst uNil)) U_law_mixed_1
theorem mixed_loop {xs : List D} {d : Sl} {P : R → Prop} (hl : xs.length ≤ 100000) (k : ∀ ys : List D, ys.Perm xs → P (.ow (.lst ys))) (hd : d = .sh (.lst xs) ∨ d = .sh (.tup xs)) :
    U_law_mixed_1 ⟨fun _ => P (.sh .non), fun r _ => P r, fun _ => False, fun _ => False⟩ [.bag, d, .own none (.lst xs), .own none (.lst []), .un] := by
  have core : ∃ W : Nat → List Sl → Prop, W 0 [.bag, d, .own none (.lst xs), .own none (.lst []), .un] ∧
      (∀ (i : Nat) (x : D) (e' : List Sl), (nums 0 xs.length)[i]? = some x → W i e' → ∃ l f v, e' = [.bag, d, .own none (.lst l), .own none (.lst f), v] ∧ U_law_mixed_1_b_0 ⟨W (i + 1), fun r _ => P r, U_law_mixed_2 ⟨fun _ => P (.sh .non), fun r _ => P r, fun _ => False, fun _ => False⟩, W (i + 1)⟩ [.bag, d, .own none (.lst l), .own none (.lst f), .sh x]) ∧
      ∀ e', W (nums 0 xs.length).length e' → U_law_mixed_2 ⟨fun _ => P (.sh .non), fun r _ => P r, fun _ => False, fun _ => False⟩ e' := by
    refine ⟨fun i e => ∃ (left found : List D) (v : Sl), e = [.bag, d, .own none (.lst left), .own none (.lst found), v] ∧ left.length + i = xs.length ∧ (found ++ left).Perm xs, ⟨xs, [], .un, rfl, rfl, List.Perm.refl _⟩, ?_, ?_⟩
    · rintro i x e hx ⟨left, found, v, rfl, h1, h2⟩
      have hi := (nums_get hx).1
      refine ⟨left, found, v, rfl, ?_⟩
      unfold U_law_mixed_1_b_0
      walk_at "dl"
      refine ⟨⟨_, _, rfl⟩, ⟨_, _, rfl⟩, rfl, _, rfl, by omega, by omega, fun j j0 j1 => ?_⟩
      obtain ⟨n, rfl⟩ := Int.eq_ofNat_of_zero_le j0
      have hn : n < left.length := by omega
      have hf := h2.length_eq
      rw [List.length_append] at hf
      refine ⟨n, _, left, left[n], rfl, rfl, by omega, by simp [hn], ?_⟩
      walk_at "dl"
      refine ⟨_, _, rfl, by omega, left.eraseIdx n, found ++ [left[n]], _, rfl, ?_, ?_⟩
      · rw [List.length_eraseIdx]
        rw [if_pos hn]
        omega
      · refine List.Perm.trans ?_ h2
        rw [List.append_assoc]
        exact List.Perm.append_left found (perm_pop (by simp [hn]))
    · rintro e ⟨left, found, v, rfl, h1, h2⟩
      rw [nums_len] at h1
      have h3 : left = [] := List.length_eq_zero_iff.mp (by omega)
      subst h3
      rw [List.append_nil] at h2
      unfold U_law_mixed_2
      walk_at "dl"
      exact k found h2
  obtain ⟨W, w0, ws, wd⟩ := core
  unfold U_law_mixed_1
  rcases hd with rfl | rfl
  all_goals
    walk_at "dl"
    refine ⟨_, rfl, by omega, by omega, ?_⟩
    rw [Int.toNat_natCast]
    refine ⟨W, w0, fun i x e' hx hw => ?_, wd⟩
    obtain ⟨l, f, v, rfl, h⟩ := ws i x e' hx hw
    exact h
theorem ok__law_mixed (B : Bt mg) (K__law_pull : Known P w K mg base "_law_pull" 1 ["_law_bag_here", "_law_many"] (spB K fPull)) (Hr : Here K mg "_law_mixed" s__law_mixed ["_law_bag_here", "_law_things"]) : Known P w K mg base "_law_mixed" 2 ["_law_bag_here", "_law_things"] (spB K F__law_mixed) := by
  obtain ⟨f, fd, F, hm, hbi⟩ := Hr.ex
  refine fn_bag (u := U_law_mixed_0) F hm hbi sc__law_mixed ?len rfl (fun b cdv A outer s H E hr => (dss_cons
    (ds_par (i := 2) (j := 3) true true sc__law_mixed.nd (d_list2 B.list_ (d_var 1)) (d_lst da_nil)) (dss_cons
    (ds_for (di_range1 B.range_ (da_cons (d_len B.len_ (d_var 1)) da_nil)) (dg_name (i := 4) sc__law_mixed.nd) (dss_one
    (ds_append (i := 3) (dx_popAt (i := 2) (d_callB (i := 0) K__law_pull (hr.mono (by omega)) (da_cons (d_len B.len_ (d_var 2)) da_nil)))))) (dss_one
    (ds_ret (PD.x (d_var 3))))))) ?hu
  case len => rintro ds P ⟨xs, rfl | rfl, _⟩ <;> rfl
  case hu =>
    rintro ds P ⟨xs, rfl | rfl, h1, k⟩
    · have z := mixed_loop h1 k (.inl rfl)
      unfold U_law_mixed_0
      walk_at "dl"
      exact ⟨by decide, z⟩
    · have z := mixed_loop h1 k (.inr rfl)
      unfold U_law_mixed_0
      walk_at "dl"
      exact ⟨by decide, z⟩
def F__law_same : Nat → FS
  | 0 => fun _ _ => False
  | n + 1 => fun ds P => ∃ d, ds = [d, d] ∧ simN n d = true ∧ P (.sh (.bl true))
def U_law_same_0_t_0 (Fr : FS) : DS := (uRet (uX (uAndV (uBin fIs (uVar 0) (uC .non)) (uBin fIs (uVar 1) (uC .non)))))
def U_law_same_1_t_1 (Fr : FS) : DS := uNever
def U_law_same_1_t_0 (Fr : FS) : DS := uSeq uNever (U_law_same_1_t_1 Fr)
def U_law_same_2_t_0_t_0 (Fr : FS) : DS := (uRet (uX (uC (.bl false))))
def U_law_same_2_t_1 (Fr : FS) : DS := (uRet (uX (uAndV (uBin fEq (uB fLen (uVar 0)) (uB fLen (uVar 1))) (uB fAll (uLc (uZip (uCons (uVar 0) (uCons (uVar 1) uNil))) (gTp (gsCons (gNm 2) (gsCons (gNm 3) gsNil))) uYes (uCall Fr (uCons (uVar 2) (uCons (uVar 3) uNil))) [2, 3])))))
def U_law_same_2_t_0 (Fr : FS) : DS := uSeq (uIf (uOr (uTest (uBin fNe (uIsi .lst (uVar 0)) (uIsi .lst (uVar 1)))) (uTest (uBin fNe (uIsi .tup (uVar 0)) (uIsi .tup (uVar 1))))) (U_law_same_2_t_0_t_0 Fr) uNext) (U_law_same_2_t_1 Fr)
def U_law_same_3_t_0 (Fr : FS) : DS := (uRet (uX (uC (.bl false))))
def U_law_same_4 (Fr : FS) : DS := (uRet (uX (uAndV (uBin fEq (uIsi .str (uVar 0)) (uIsi .str (uVar 1))) (uBin fEq (uVar 0) (uVar 1)))))
def U_law_same_3 (Fr : FS) : DS := uSeq (uIf (uOr (uTest (uBin fNe (uIsi .bl (uVar 0)) (uIsi .bl (uVar 1)))) (uTest (uBin fNe (uIsi .int (uVar 0)) (uIsi .int (uVar 1))))) (U_law_same_3_t_0 Fr) uNext) (U_law_same_4 Fr)
def U_law_same_2 (Fr : FS) : DS := uSeq (uIf (uTru (uIsi2 .lst .tup (uVar 1))) (U_law_same_2_t_0 Fr) uNext) (U_law_same_3 Fr)
def U_law_same_1 (Fr : FS) : DS := uSeq (uIf (uTru (uIsi .dk (uVar 1))) (U_law_same_1_t_0 Fr) uNext) (U_law_same_2 Fr)
def U_law_same_0 (Fr : FS) : DS := uSeq (uIf (uOr (uTest (uBin fIs (uVar 1) (uC .non))) (uTest (uBin fIs (uVar 0) (uC .non)))) (U_law_same_0_t_0 Fr) uNext) (U_law_same_1 Fr)
theorem same_list {Fr : FS} {xs : List D} {c : Sl} {DD : DEnds} {d : D} (hd : d = .lst xs ∨ d = .tup xs) (hl : xs.length ≤ 100000) (hF : ∀ x ∈ xs, ∀ P : R → Prop, P (.sh (.bl true)) → Fr [x, x] P) (k : ∀ e, DD.rt (.sh (.bl true)) e) : U_law_same_2_t_1 Fr DD [.sh d, .sh d, c, .un] := by
  have hz : (zips xs xs).length = xs.length := by unfold zips; simp
  unfold U_law_same_2_t_1
  rcases hd with rfl | rfl
  all_goals
    walk_at "dl"
    refine ite_of (decide_eq_true rfl) ⟨fun i acc => acc = (List.replicate i true).map .bl, rfl, ?_, ?_⟩
    · rintro i x acc hx rfl
      have hi := get_lt hx
      obtain ⟨y, hy, rfl⟩ := zips_self hx
      walk_at "dl"
      refine ⟨rfl, hF y hy _ ?_⟩
      walk_at "dl"
      refine ⟨by rw [List.length_map, List.length_replicate]; omega, ?_⟩
      show _ = (List.replicate (i + 1) true).map D.bl
      rw [List.replicate_succ', List.map_append]
      rfl
    · rintro acc rfl
      refine ⟨_, rfl, ?_⟩
      have e : (List.replicate (zips xs xs).length true).all id = true := by simp
      rw [e]
      exact k _
theorem same_step (B : Bt mg) {k : Nat} {n : Nat} (K__law_same : Known P w K mg base "_law_same" k ["_law_found", "_law_due"] (spN K (F__law_same n))) (Hr : Here K mg "_law_same" s__law_same ["_law_found", "_law_due"]) :
    Known P w K mg base "_law_same" (k + 1) ["_law_found", "_law_due"] (spN K (F__law_same (n + 1))) := by
  obtain ⟨f, fd, F, hm, hbi⟩ := Hr.ex
  refine fn_data (u := (U_law_same_0 (F__law_same n))) F hm hbi sc__law_same ?len (fun cdv A outer s H E hr => (dss_cons
    (ds_if (PDW.pt (dw_or (dt_is (d_var 1) d_non) (dw_or1 (dt_is (d_var 0) d_non)))) (dss_one
    (ds_ret (PD.x (d_and (d_is (d_var 0) d_non) (d_one (d_is (d_var 1) d_non)))))) dss_nil) (dss_cons
    (ds_if (dt_tru (d_isi (T := .dk) B.isinstance_ B.dict_ (by decide +kernel) (by decide) (d_var 1))) (dss_cons
    ds_never (dss_one
    ds_never)) dss_nil) (dss_cons
    (ds_if (dt_tru (d_isi2 (T := .lst) (T2 := .tup) B.isinstance_ B.list_ (by decide +kernel) (by decide) B.tuple_ (by decide +kernel) (by decide) (d_var 1))) (dss_cons
    (ds_if (PDW.pt (dw_or (dt_ne hr.units (d_isi (T := .lst) B.isinstance_ B.list_ (by decide +kernel) (by decide) (d_var 0)) (d_isi (T := .lst) B.isinstance_ B.list_ (by decide +kernel) (by decide) (d_var 1))) (dw_or1 (dt_ne hr.units (d_isi (T := .tup) B.isinstance_ B.tuple_ (by decide +kernel) (by decide) (d_var 0)) (d_isi (T := .tup) B.isinstance_ B.tuple_ (by decide +kernel) (by decide) (d_var 1)))))) (dss_one
    (ds_ret (PD.x d_bl))) dss_nil) (dss_one
    (ds_ret (PD.x (d_and (d_eq hr.units (d_len B.len_ (d_var 0)) (d_len B.len_ (d_var 1))) (d_one (d_all B.all_ (d_lc (own := [("_law_one", 2), ("_law_other", 3)]) sc__law_same.nd (blkD (N := ["_law_found", "_law_due", "_law_one", "_law_other"]) (sc := defScope s__law_same) (by decide +kernel)) (by decide) (di_zip B.zip_ (da_cons (d_var 0) (da_cons (d_var 1) da_nil))) (fun _ _ _ _ _ => (dg_tup (n := 2) (dgs_cons (dg_name (i := 2) sc__law_same.nd) (dgs_cons (dg_name (i := 3) sc__law_same.nd) dgs_nil)) (gl_cons gx_name (gl_cons gx_name gl_nil)))) (fun _ _ _ _ _ => dts_nil) (fun _ _ _ _ _ => (d_call K__law_same (hr.mono (by omega)) (da_cons (d_var 2) (da_cons (d_var 3) da_nil)))))))))))) dss_nil) (dss_cons
    (ds_if (PDW.pt (dw_or (dt_ne hr.units (d_isi (T := .bl) B.isinstance_ B.bool_ (by decide +kernel) (by decide) (d_var 0)) (d_isi (T := .bl) B.isinstance_ B.bool_ (by decide +kernel) (by decide) (d_var 1))) (dw_or1 (dt_ne hr.units (d_isi (T := .int) B.isinstance_ B.int_ (by decide +kernel) (by decide) (d_var 0)) (d_isi (T := .int) B.isinstance_ B.int_ (by decide +kernel) (by decide) (d_var 1)))))) (dss_one
    (ds_ret (PD.x d_bl))) dss_nil) (dss_one
    (ds_ret (PD.x (d_and (d_eq hr.units (d_isi (T := .str) B.isinstance_ B.str_ (by decide +kernel) (by decide) (d_var 0)) (d_isi (T := .str) B.isinstance_ B.str_ (by decide +kernel) (by decide) (d_var 1))) (d_one (d_eq hr.units (d_var 0) (d_var 1)))))))))))) ?hu
  case len => rintro ds P ⟨d, rfl, _⟩; rfl
  case hu =>
    rintro ds P ⟨d, rfl, hd, k⟩
    have seq : ∀ {xs : List D} {d : D}, (d = .lst xs ∨ d = .tup xs) → simN n d = true → U_law_same_2_t_1 (F__law_same n) ⟨fun _ => P (.sh .non), fun r _ => P r, fun _ => False, fun _ => False⟩ [.sh d, .sh d, .un, .un] := fun {xs d} h hs => by
      obtain ⟨m, rfl, hl, hm⟩ : ∃ m, n = m + 1 ∧ xs.length ≤ 100000 ∧ ∀ x ∈ xs, simN m x = true := by
        rcases h with rfl | rfl
        · exact simN_lst hs
        · exact simN_tup hs
      exact same_list h hl (fun x hx P p => ⟨x, rfl, hm x hx, p⟩) fun e => k
    have nod : ∀ {d : D}, simN n d = true → flatD d = false → ∃ xs, d = .lst xs ∨ d = .tup xs := fun {d} h f => by
      cases d with
      | lst xs => exact ⟨xs, .inl rfl⟩
      | tup xs => exact ⟨xs, .inr rfl⟩
      | dk _ => cases n <;> cases h
      | obj _ _ => cases n <;> cases h
      | fn _ => cases n <;> cases h
      | exc _ _ => cases n <;> cases h
      | tabl _ _ => cases n <;> cases h
      | _ => cases f
    cases d with
    | non =>
      unfold U_law_same_0 U_law_same_0_t_0
      walk_at "dl"
      exact k
    | lst xs =>
      unfold U_law_same_0 U_law_same_1 U_law_same_2 U_law_same_2_t_0
      walk_at "dl"
      exact seq (.inl rfl) hd
    | tup xs =>
      unfold U_law_same_0 U_law_same_1 U_law_same_2 U_law_same_2_t_0
      walk_at "dl"
      exact seq (.inr rfl) hd
    | dk _ => cases n <;> cases hd
    | obj _ _ => cases n <;> cases hd
    | fn _ => cases n <;> cases hd
    | exc _ _ => cases n <;> cases hd
    | tabl _ _ => cases n <;> cases hd
    | bl c =>
      unfold U_law_same_0 U_law_same_1 U_law_same_2 U_law_same_3 U_law_same_4
      walk_at "dl"
      simpa using k
    | int c =>
      unfold U_law_same_0 U_law_same_1 U_law_same_2 U_law_same_3 U_law_same_4
      walk_at "dl"
      simpa using k
    | str c =>
      unfold U_law_same_0 U_law_same_1 U_law_same_2 U_law_same_3 U_law_same_4
      walk_at "dl"
      simpa using k
theorem ok__law_same (B : Bt mg) (Hr : Here K mg "_law_same" s__law_same ["_law_found", "_law_due"]) : ∀ n, Known P w K mg base "_law_same" n ["_law_found", "_law_due"] (spN K (F__law_same n))
  | 0 => known_none Hr
  | n + 1 => same_step B (ok__law_same B Hr n) Hr
/-! webs: marks of nodes, ends of edges -/
abbrev Mks := List (Int × Int)
abbrev Ens := List (Str × (Int × Int))
def pD (p : Int × Int) : D := .tup [.int p.1, .int p.2]
def mD (m : Mks) : D := .dk (dkv Sum.inl D.int m)
def eD (e : Ens) : D := .dk (dkv Sum.inr pD e)
def webD (C : Addr) (m : Mks) (e : Ens) : D := .obj C [("node_marks", mD m), ("edge_ends", eD e)]
def rawD (m : Mks) (e : Ens) : D := .tup [mD m, eD e]
def IsNm (z : Str) : Prop := ∃ c, z = S [c] ∧ 97 ≤ c ∧ c ≤ 120
structure WIn (m : Mks) (e : Ens) : Prop where
  mn : (m.map (·.1)).Nodup
  mr : ∀ p ∈ m, 0 ≤ p.1 ∧ p.1 < 12 ∧ (p.2 = 0 ∨ p.2 = 1)
  en : (e.map (·.1)).Nodup
  er : ∀ p ∈ e, IsNm p.1 ∧ p.2.1 ≠ p.2.2 ∧ p.2.1 ∈ m.map (·.1) ∧ p.2.2 ∈ m.map (·.1)
theorem nd_len {β : Type} [DecidableEq β] : ∀ {l L : List β}, l.Nodup → (∀ x ∈ l, x ∈ L) → l.length ≤ L.length
  | [], _, _, _ => Nat.zero_le _
  | x :: l, L, hn, h => by
    have hx := h x List.mem_cons_self
    have hp := List.perm_cons_erase hx
    have := nd_len (l := l) (L := L.erase x) (List.nodup_cons.mp hn).2 fun y hy => by
      have ne : y ≠ x := fun e => (List.nodup_cons.mp hn).1 (e ▸ hy)
      exact (List.mem_erase_of_ne ne).mpr (h y (List.mem_cons_of_mem _ hy))
    have hl := hp.length_eq
    rw [List.length_cons] at hl ⊢
    omega
theorem nodup_len {α β : Type} [DecidableEq β] (f : α → β) (L : List β) {l : List α} (hn : (l.map f).Nodup) (h : ∀ x ∈ l, f x ∈ L) : l.length ≤ L.length := by
  have := nd_len hn fun y hy => by
    obtain ⟨x, hx, rfl⟩ := List.mem_map.mp hy
    exact h x hx
  rwa [List.length_map] at this
theorem WIn.mlen {m : Mks} {e : Ens} (h : WIn m e) : m.length ≤ 12 := by
  refine nodup_len (β := Int) (·.1) [0, 1, 2, 3, 4, 5, 6, 7, 8, 9, 10, 11] h.mn fun p hp => ?_
  obtain ⟨h1, h2, _⟩ := h.mr p hp
  simp only [List.mem_cons, List.not_mem_nil, or_false]
  omega
theorem WIn.elen {m : Mks} {e : Ens} (h : WIn m e) : e.length ≤ 24 := by
  have : e.length ≤ ((List.range 24).map fun i => 97 + i).length := by
    refine nodup_len (fun p : Str × (Int × Int) => p.1.cps.toList.getD 0 0) _ ?_ fun p hp => ?_
    · rw [show e.map (fun p => p.1.cps.toList.getD 0 0) = (e.map (·.1)).map (fun z : Str => z.cps.toList.getD 0 0) by rw [List.map_map]; rfl]
      rw [List.nodup_iff_pairwise_ne, List.pairwise_map]
      refine List.Pairwise.imp_of_mem ?_ (List.nodup_iff_pairwise_ne.mp h.en)
      intro x y hx hy ne q
      obtain ⟨a, ha, rfl⟩ := List.mem_map.mp hx
      obtain ⟨c, hc, rfl⟩ := List.mem_map.mp hy
      obtain ⟨⟨k, e1, _⟩, _⟩ := h.er a ha
      obtain ⟨⟨l, e2, _⟩, _⟩ := h.er c hc
      rw [e1, e2] at q ne
      exact ne (by rw [show k = l from q])
    · obtain ⟨⟨k, e1, h1, h2⟩, _⟩ := h.er p hp
      rw [e1]
      exact List.mem_map.mpr ⟨k - 97, List.mem_range.mpr (by omega), by show 97 + (k - 97) = k; omega⟩
  simpa using this
/-- both ends, the lesser one first -/
def sp (p : Int × Int) : Int × Int := if p.2 < p.1 then (p.2, p.1) else p
def srtM (m : Mks) : Mks := (srtI (m.map (·.1))).map fun n => (n, (aget m n).getD 0)
def srtE (e : Ens) : Ens := (srtS (e.map (·.1))).map fun z => (z, sp ((aget e z).getD (0, 0)))
theorem srtM_keys (m : Mks) : (srtM m).map (·.1) = srtI (m.map (·.1)) := by unfold srtM; rw [List.map_map]; exact List.map_id' _
theorem srtE_keys (e : Ens) : (srtE e).map (·.1) = srtS (e.map (·.1)) := by unfold srtE; rw [List.map_map]; exact List.map_id' _
theorem aget_key {α κ : Type} [DecidableEq κ] {m : List (κ × α)} {n : κ} (h : n ∈ m.map (·.1)) : ∃ a, aget m n = some a := Option.isSome_iff_exists.mp (aget_mem.mpr h)
theorem aget_map {α κ : Type} [DecidableEq κ] {f : κ → α} : ∀ {l : List κ} {n : κ}, aget (l.map fun n => (n, f n)) n = if n ∈ l then some (f n) else none
  | [], n => rfl
  | x :: l, n => by
    have ih := aget_map (f := f) (l := l) (n := n)
    unfold aget at ih ⊢
    rw [List.map_cons, List.find?_cons]
    by_cases h : x = n
    · subst h; simp
    · rw [show decide ((x, f x).1 = n) = false from decide_eq_false h]
      dsimp only
      rw [ih]
      simp [show ¬ n = x from fun e => h e.symm]
theorem aget_srtE {e : Ens} {z : Str} {p : Int × Int} (h : aget e z = some p) : aget (srtE e) z = some (sp p) := by
  unfold srtE
  rw [aget_map, if_pos (srtS_mem.mpr (aget_mem.mp (by rw [h]; rfl))), h]; rfl
theorem nums_range (n : Nat) : nums 0 n = (List.range n).map fun u : Nat => D.int u := by
  unfold nums
  simp
-- §SPLIT
def F_is_node_number (cWeb : Addr) : FS := fun ds P => ∃ n : Int, ds = [.int n] ∧ P (.sh (.bl (decide (0 ≤ n) && decide (n < 12))))
def U_is_node_number_0 (cWeb : Addr) : DS := (uRet (uX (uChn fLeI fLt (uC (.int 0)) (uVar 0) (uC (.int 12)))))
theorem ok_is_node_number {cWeb : Addr} {mc : Value} (B : Bt mg) (W : WebC K mg cWeb mc)  (Hr : Here K mg "is_node_number" s_is_node_number ["node"]) : Known P w K mg base "is_node_number" 1 ["node"] (spN K (F_is_node_number cWeb)) := by
  obtain ⟨f, fd, F, hm, hbi⟩ := Hr.ex
  refine fn_data (u := (U_is_node_number_0 cWeb)) F hm hbi sc_is_node_number ?len (fun cdv A outer s H E hr => (dss_one
    (ds_ret (PD.x (d_leLt d_int (d_var 0) (d_cval W.mgC W.rd W.c_MAX_NODES fun _ => rfl)))))) ?hu
  case len => rintro ds P ⟨n, rfl, _⟩; rfl
  case hu =>
    rintro ds P ⟨n, rfl, k⟩
    unfold U_is_node_number_0
    walk_at "dm"
    by_cases h : 0 ≤ n
    · rw [decide_eq_true h] at k ⊢
      exact k
    · rw [decide_eq_false h] at k ⊢
      exact k
theorem abc_mem {c : Nat} (h1 : 97 ≤ c) (h2 : c ≤ 120) : c ∈ (Str.ofString "abcdefghijklmnopqrstuvwx").cps.toList := by
  show c ∈ [97, 98, 99, 100, 101, 102, 103, 104, 105, 106, 107, 108, 109, 110, 111, 112, 113, 114, 115, 116, 117, 118, 119, 120]
  simp only [List.mem_cons, List.not_mem_nil, or_false]
  omega
def F_is_edge_name : FS := fun ds P => ∃ z : Str, ds = [.str z] ∧ IsNm z ∧ P (.sh (.bl true))
def U_is_edge_name_0 : DS := (uRet (uX (uAndV (uBin fEq (uB fLenU (uVar 0)) (uC (.int 1))) (uBin (fInU false) (uVar 0) (uC (.str "abcdefghijklmnopqrstuvwx"))))))
theorem ok_is_edge_name (B : Bt mg)  (Hr : Here K mg "is_edge_name" s_is_edge_name ["name"]) : Known P w K mg base "is_edge_name" 1 ["name"] (spN K F_is_edge_name) := by
  obtain ⟨f, fd, F, hm, hbi⟩ := Hr.ex
  refine fn_data (u := U_is_edge_name_0) F hm hbi sc_is_edge_name ?len (fun cdv A outer s H E hr => (dss_one
    (ds_ret (PD.x (d_and (d_eq hr.units (d_lenU B.len_ (d_var 0)) d_int) (d_one (d_inU (hu_of hr) (d_var 0) (d_globE (d := .str "abcdefghijklmnopqrstuvwx") B.g_NAMES fun _ => rfl)))))))) ?hu
  case len => rintro ds P ⟨n, rfl, _⟩; rfl
  case hu =>
    rintro ds P ⟨z, rfl, ⟨c, rfl, h1, h2⟩, k⟩
    unfold U_is_edge_name_0
    walk_at "dm"
    refine ⟨(show 1 ≤ 1000000 by decide), ?_⟩
    refine ite_of (decide_eq_true rfl) ⟨c, rfl, ?_⟩
    rw [decide_eq_true (show c ∈ (Str.ofString "abcdefghijklmnopqrstuvwx").cps.toList from abc_mem h1 h2)]
    exact k
def F_check_parts (cWeb : Addr) : FS := fun ds P => ∃ m e, ds = [mD m, eD e] ∧ WIn m e ∧ P (.sh .non)
def U_check_parts_0_b_0_t_0 (cWeb : Addr) : DS := uNever
def U_check_parts_0_b_0 (cWeb : Addr) : DS := (uIf (uNot (uTru (uCall (F_is_node_number cWeb) (uCons (uVar 2) uNil)))) (U_check_parts_0_b_0_t_0 cWeb) uNext)
def U_check_parts_1_b_0_t_0 (cWeb : Addr) : DS := uNever
def U_check_parts_1_b_0 (cWeb : Addr) : DS := (uIf (uTest (uBin (fInU true) (uBin fAt (uVar 0) (uVar 2)) (uTup (uCons (uC (.int 0)) (uCons (uC (.int 1)) uNil))))) (U_check_parts_1_b_0_t_0 cWeb) uNext)
def U_check_parts_2_b_0_t_0 (cWeb : Addr) : DS := uNever
def U_check_parts_2_b_0 (cWeb : Addr) : DS := (uIf (uNot (uTru (uCall F_is_edge_name (uCons (uVar 3) uNil)))) (U_check_parts_2_b_0_t_0 cWeb) uNext)
def U_check_parts_3_b_1_t_0 (cWeb : Addr) : DS := uNever
def U_check_parts_3_b_1 (cWeb : Addr) : DS := (uIf (uOr (uTest (uBin fEq (uVar 4) (uVar 5))) (uOr (uTest (uBin (fInU true) (uVar 4) (uVar 0))) (uTest (uBin (fInU true) (uVar 5) (uVar 0))))) (U_check_parts_3_b_1_t_0 cWeb) uNext)
def U_check_parts_3_b_0 (cWeb : Addr) : DS := uSeq (uAsg (gTp (gsCons (gNm 4) (gsCons (gNm 5) gsNil))) (uX (uBin fAt (uVar 1) (uVar 3)))) (U_check_parts_3_b_1 cWeb)
def U_check_parts_3 (cWeb : Addr) : DS := (uFor (uItQ (uB fSortedV (uVar 1))) (gNm 3) (U_check_parts_3_b_0 cWeb))
def U_check_parts_2 (cWeb : Addr) : DS := uSeq (uFor (uItQ (uB fSortedV (uVar 1))) (gNm 3) (U_check_parts_2_b_0 cWeb)) (U_check_parts_3 cWeb)
def U_check_parts_1 (cWeb : Addr) : DS := uSeq (uFor (uItQ (uB fSortedV (uVar 0))) (gNm 2) (U_check_parts_1_b_0 cWeb)) (U_check_parts_2 cWeb)
def U_check_parts_0 (cWeb : Addr) : DS := uSeq (uFor (uItQ (uB fSortedV (uVar 0))) (gNm 2) (U_check_parts_0_b_0 cWeb)) (U_check_parts_1 cWeb)
theorem ok_check_parts {cWeb : Addr} {mc : Value} (B : Bt mg) (W : WebC K mg cWeb mc) (K_is_node_number : Known P w K mg base "is_node_number" 1 ["node"] (spN K (F_is_node_number cWeb))) (K_is_edge_name : Known P w K mg base "is_edge_name" 1 ["name"] (spN K F_is_edge_name)) (Hr : Here K mg "check_parts" s_check_parts ["marks", "edges"]) : Known P w K mg base "check_parts" 2 ["marks", "edges"] (spN K (F_check_parts cWeb)) := by
  obtain ⟨f, fd, F, hm, hbi⟩ := Hr.ex
  refine fn_data (u := (U_check_parts_0 cWeb)) F hm hbi sc_check_parts ?len (fun cdv A outer s H E hr => (dss_cons
    (ds_for (di_any (d_sortedV B.sorted_ (d_var 0))) (dg_name (i := 2) sc_check_parts.nd) (dss_one
    (ds_if (dt_not (dt_tru (d_call K_is_node_number (hr.mono (by omega)) (da_cons (d_var 2) da_nil)))) (dss_one
    ds_never) dss_nil))) (dss_cons
    (ds_for (di_any (d_sortedV B.sorted_ (d_var 0))) (dg_name (i := 2) sc_check_parts.nd) (dss_one
    (ds_if (dt_notinU (hu_of hr) (d_at (hu_of hr) (d_var 0) (d_var 2)) (d_tup (da_cons d_int (da_cons d_int da_nil)))) (dss_one
    ds_never) dss_nil))) (dss_cons
    (ds_for (di_any (d_sortedV B.sorted_ (d_var 1))) (dg_name (i := 3) sc_check_parts.nd) (dss_one
    (ds_if (dt_not (dt_tru (d_call K_is_edge_name (hr.mono (by omega)) (da_cons (d_var 3) da_nil)))) (dss_one
    ds_never) dss_nil))) (dss_one
    (ds_for (di_any (d_sortedV B.sorted_ (d_var 1))) (dg_name (i := 3) sc_check_parts.nd) (dss_cons
    (ds_asg (PD.x (d_at (hu_of hr) (d_var 1) (d_var 3))) (dg_tup (n := 2) (dgs_cons (dg_name (i := 4) sc_check_parts.nd) (dgs_cons (dg_name (i := 5) sc_check_parts.nd) dgs_nil)) (gl_cons gx_name (gl_cons gx_name gl_nil)))) (dss_one
    (ds_if (PDW.pt (dw_or (dt_eq hr.units (d_var 4) (d_var 5)) (dw_or (dt_notinU (hu_of hr) (d_var 4) (d_var 0)) (dw_or1 (dt_notinU (hu_of hr) (d_var 5) (d_var 0)))))) (dss_one
    ds_never) dss_nil))))))))) ?hu
  case len => rintro ds P ⟨n, e, rfl, _⟩; rfl
  case hu =>
    rintro ds P ⟨m, e, rfl, W0, k⟩
    have ml := W0.mlen
    have el := W0.elen
    have mk : ∀ n ∈ m.map (·.1), ∃ v, aget m n = some v ∧ 0 ≤ n ∧ n < 12 ∧ (v = 0 ∨ v = 1) := fun n hn => by
      obtain ⟨v, hv⟩ := aget_key hn
      exact ⟨v, hv, W0.mr _ (aget_in hv)⟩
    have ek : ∀ z ∈ e.map (·.1), ∃ p, aget e z = some p ∧ IsNm z ∧ p.1 ≠ p.2 ∧ p.1 ∈ m.map (·.1) ∧ p.2 ∈ m.map (·.1) := fun z hz => by
      obtain ⟨p, hp⟩ := aget_key hz
      exact ⟨p, hp, W0.er _ (aget_in hp)⟩
    unfold U_check_parts_0 mD eD
    walk_at "dm"
    refine for_pre (srtI (m.map (·.1))) D.int (fun _ x => ∃ v2 v3 v4 v5, x = [.sh (mD m), .sh (eD e), v2, v3, v4, v5]) (fun Q q => by refine sortV_mk (by omega) ?_; exact q) ⟨_, _, _, _, rfl⟩ ?_ ?_
    · rintro pre n post hp x ⟨v2, v3, v4, v5, rfl⟩
      obtain ⟨v, hv, h1, h2, h3⟩ := mk n (srtI_mem.mp (by rw [hp]; simp))
      unfold U_check_parts_0_b_0 U_check_parts_0_b_0_t_0
      walk_at "dm"
      refine ⟨n, rfl, ?_⟩
      rw [decide_eq_true h1, decide_eq_true h2]
      walk_at "dm"
      exact ⟨_, _, _, _, rfl⟩
    rintro x ⟨v2, v3, v4, v5, rfl⟩
    unfold U_check_parts_1
    walk_at "dm"
    refine for_pre (srtI (m.map (·.1))) D.int (fun _ x => ∃ v2 v3 v4 v5, x = [.sh (mD m), .sh (eD e), v2, v3, v4, v5]) (fun Q q => by refine sortV_mk (by omega) ?_; exact q) ⟨_, _, _, _, rfl⟩ ?_ ?_
    · rintro pre n post hp x ⟨v2, v3, v4, v5, rfl⟩
      obtain ⟨v, hv, h1, h2, h3⟩ := mk n (srtI_mem.mp (by rw [hp]; simp))
      unfold U_check_parts_1_b_0 U_check_parts_1_b_0_t_0
      walk_at "dm"
      refine at_mk hv ?_
      walk_at "dm"
      rcases h3 with rfl | rfl
      · exact ⟨by decide, rfl, rfl, ite_on rfl ⟨_, _, _, _, rfl⟩⟩
      · exact ⟨by decide, rfl, rfl, ite_on rfl ⟨_, _, _, _, rfl⟩⟩
    rintro x ⟨v2, v3, v4, v5, rfl⟩
    unfold U_check_parts_2
    walk_at "dm"
    refine for_pre (srtS (e.map (·.1))) D.str (fun _ x => ∃ v2 v3 v4 v5, x = [.sh (mD m), .sh (eD e), v2, v3, v4, v5]) (fun Q q => by refine sortV_ek (by omega) ?_; exact q) ⟨_, _, _, _, rfl⟩ ?_ ?_
    · rintro pre z post hp x ⟨v2, v3, v4, v5, rfl⟩
      obtain ⟨p, hp2, h1, h2, h3, h4⟩ := ek z (srtS_mem.mp (by rw [hp]; simp))
      unfold U_check_parts_2_b_0 U_check_parts_2_b_0_t_0
      walk_at "dm"
      refine ⟨z, rfl, h1, ?_⟩
      walk_at "dm"
      exact ⟨_, _, _, _, rfl⟩
    rintro x ⟨v2, v3, v4, v5, rfl⟩
    unfold U_check_parts_3
    walk_at "dm"
    refine for_pre (srtS (e.map (·.1))) D.str (fun _ x => ∃ v2 v3 v4 v5, x = [.sh (mD m), .sh (eD e), v2, v3, v4, v5]) (fun Q q => by refine sortV_ek (by omega) ?_; exact q) ⟨_, _, _, _, rfl⟩ ?_ ?_
    · rintro pre z post hp x ⟨v2, v3, v4, v5, rfl⟩
      obtain ⟨p, hp2, h1, h2, h3, h4⟩ := ek z (srtS_mem.mp (by rw [hp]; simp))
      unfold U_check_parts_3_b_0 U_check_parts_3_b_1 U_check_parts_3_b_1_t_0
      walk_at "dm"
      refine at_ek hp2 ?_
      unfold pD
      walk_at "dm"
      refine ⟨rfl, ?_⟩
      rw [decide_eq_false h2, if_neg (by decide)]
      refine in_mk ?_
      rw [decide_eq_true h3]
      refine in_mk ?_
      rw [decide_eq_true h4]
      exact ⟨_, _, _, _, rfl⟩
    · rintro x ⟨v2, v3, v4, v5, rfl⟩
      exact k
def F_Web___init__ (cWeb : Addr) : FI := fun ds P => ∃ m e, ds = [mD m, eD e] ∧ WIn m e ∧ P [("node_marks", mD (srtM m)), ("edge_ends", eD (srtE e))]
theorem filt_all {α : Type} {l : List α} : l.filter (fun _ => true) = l := by simp
theorem nodup_map_inl {l : List Int} (h : l.Nodup) : (l.map (fun n => (Sum.inl n : Key))).Nodup := by
  rw [List.nodup_iff_pairwise_ne, List.pairwise_map]
  exact (List.nodup_iff_pairwise_ne.mp h).imp fun ne e => ne (Sum.inl.inj e)
theorem nodup_map_inr {l : List Str} (h : l.Nodup) : (l.map (fun n => (Sum.inr n : Key))).Nodup := by
  rw [List.nodup_iff_pairwise_ne, List.pairwise_map]
  exact (List.nodup_iff_pairwise_ne.mp h).imp fun ne e => ne (Sum.inr.inj e)
def U_Web___init___2 (cWeb : Addr) : DS := (uPutF 0 cWeb "edge_ends" (uX (uDc (uItQ (uB fSortedV (uVar 2))) (gNm 4) uYes (uVar 4) (uB fTupc (uB fSortedV (uBin fAt (uVar 2) (uVar 4)))) [4])))
def U_Web___init___1 (cWeb : Addr) : DS := uSeq (uPutF 0 cWeb "node_marks" (uX (uDc (uItQ (uB fSortedV (uVar 1))) (gNm 3) uYes (uVar 3) (uBin fAt (uVar 1) (uVar 3)) [3]))) (U_Web___init___2 cWeb)
def U_Web___init___0 (cWeb : Addr) : DS := uSeq (uDrop (uX (uCall (F_check_parts cWeb) (uCons (uVar 1) (uCons (uVar 2) uNil))))) (U_Web___init___1 cWeb)
theorem ord_pair {p : Int × Int} {P : R → Prop} (h : P (.ow (.lst [.int (sp p).1, .int (sp p).2]))) : fSortedV (pD p) P := by
  refine sortV_T (zs := [p.1, p.2]) (show 2 ≤ 1000000 by decide) ?_
  have e : srtI [p.1, p.2] = [(sp p).1, (sp p).2] := by
    unfold sp
    split
    · exact (srtI_eq (List.Perm.swap _ _ _) (by simp; omega)).symm
    · exact (srtI_eq (List.Perm.refl _) (by simp; omega)).symm
  rw [e]
  exact h
theorem ok_Web___init__ {cWeb : Addr} {mc : Value} (B : Bt mg) (W : WebC K mg cWeb mc) (K_check_parts : Known P w K mg base "check_parts" 2 ["marks", "edges"] (spN K (F_check_parts cWeb))) (Hr : HereI K mg "Web" cWeb s_Web___init__ ["self", "marks", "edges"]) : KnownI P w K mg base "Web" cWeb 3 ["self", "marks", "edges"] (spI K cWeb (F_Web___init__ cWeb)) := by
  obtain ⟨f, fd, F, hm, hbi⟩ := Hr.ex
  refine ⟨f, fd, fn_init (C := cWeb) (u := (U_Web___init___0 cWeb)) F sc_Web___init__ ?len rfl (fun cdv A outer s H E hr => (dss_cons
    (ds_expr (PD.x (d_call K_check_parts (hr.mono (by omega)) (da_cons (d_var 1) (da_cons (d_var 2) da_nil))))) (dss_cons
    (ds_putF (i := 0) W.cl W.n_node_marks (PD.x (d_dc (own := [("node", 3)]) sc_Web___init__.nd (blkD (N := ["self", "marks", "edges", "node", "name"]) (sc := defScope s_Web___init__) (by decide +kernel)) (by decide) (di_any (d_sortedV B.sorted_ (d_var 1))) (fun _ _ _ _ _ => (dg_name (i := 3) sc_Web___init__.nd)) (fun _ _ _ _ _ => dts_nil) (fun _ _ _ _ _ => (d_var 3)) (fun _ _ _ _ _ => (d_at (hu_of hr) (d_var 1) (d_var 3)))))) (dss_one
    (ds_putF (i := 0) W.cl W.n_edge_ends (PD.x (d_dc (own := [("name", 4)]) sc_Web___init__.nd (blkD (N := ["self", "marks", "edges", "node", "name"]) (sc := defScope s_Web___init__) (by decide +kernel)) (by decide) (di_any (d_sortedV B.sorted_ (d_var 2))) (fun _ _ _ _ _ => (dg_name (i := 4) sc_Web___init__.nd)) (fun _ _ _ _ _ => dts_nil) (fun _ _ _ _ _ => (d_var 4)) (fun _ _ _ _ _ => (d_tuplec B.tuple_ (d_sortedV B.sorted_ (d_at (hu_of hr) (d_var 2) (d_var 4)))))))))))) ?hu, hm, W.mgC, hbi⟩
  case len => rintro ds P ⟨m, e, rfl, _⟩; rfl
  case hu =>
    rintro q ds P ⟨m, e, rfl, W0, k⟩
    have ml := W0.mlen
    have el := W0.elen
    have mk : ∀ n ∈ m.map (·.1), ∃ v, aget m n = some v := fun n hn => aget_key hn
    have ek : ∀ z ∈ e.map (·.1), ∃ p, aget e z = some p := fun z hz => aget_key hz
    unfold U_Web___init___0
    walk_at "dm"
    refine ⟨m, e, rfl, W0, ?_⟩
    unfold U_Web___init___1
    walk_at "dm"
    refine dc_map (srtI (m.map (·.1))) D.int (fun _ => true) (fun n => .inl n) (fun n => .int ((aget m n).getD 0)) (fun Q q => by refine sortV_mk (by omega) ?_; exact q) (by rw [srtI_len, List.length_map]; omega) ?_ ?_ ?_
    · rw [filt_all]
      exact nodup_map_inl ((srtI_perm _).nodup_iff.mpr W0.mn)
    · intro n hn S T hS _
      obtain ⟨v, hv⟩ := mk n (srtI_mem.mp hn)
      have hS := hS rfl
      rw [hv] at hS
      walk_at "dm"
      exact ⟨_, rfl, at_mk hv hS⟩
    walk_at "dm"
    rw [filt_all]
    refine ⟨q, [], rfl, by decide, ?_⟩
    unfold U_Web___init___2
    walk_at "dm"
    refine dc_map (srtS (e.map (·.1))) D.str (fun _ => true) (fun n => .inr n) (fun n => pD (sp ((aget e n).getD (0, 0)))) (fun Q q => by refine sortV_ek (by omega) ?_; exact q) (by rw [srtS_len, List.length_map]; omega) ?_ ?_ ?_
    · rw [filt_all]
      exact nodup_map_inr ((srtS_perm _).nodup_iff.mpr W0.en)
    · intro z hz S T hS _
      obtain ⟨p, hp⟩ := ek z (srtS_mem.mp hz)
      have hS := hS rfl
      rw [hp] at hS
      walk_at "dm"
      exact ⟨_, rfl, at_ek hp (ord_pair hS)⟩
    walk_at "dm"
    rw [filt_all]
    refine ⟨q, _, rfl, (show 1 < 1000 by decide), _, rfl, ?_⟩
    refine Eq.mp (congrArg P ?_) k
    show _ = [_, _]
    unfold srtM srtE mD eD dkv
    rw [List.map_map, List.map_map]
    rfl
def F_Web_edges (cWeb : Addr) : FS := fun ds P => ∃ m e, ds = [webD cWeb m e] ∧ P (.ow (.lst (e.map fun p => .str p.1)))
def U_Web_edges_0 (cWeb : Addr) : DS := (uRet (uX (uB fListU (uFld cWeb "edge_ends" (uVar 0)))))
theorem ok_Web_edges {cWeb : Addr} {mc : Value} (B : Bt mg) (W : WebC K mg cWeb mc)  (Hr : HereM K cWeb "edges" "Web.edges" s_Web_edges ["self"]) : KnownM P w K mg base cWeb "edges" 1 ["self"] (spN K (F_Web_edges cWeb)) := by
  obtain ⟨f, fd, F, hm, hbi⟩ := Hr.ex
  refine ⟨f, fd, fn_dataM (u := (U_Web_edges_0 cWeb)) F hbi sc_Web_edges ?len (fun cdv A outer s H E hr => (dss_one
    (ds_ret (PD.x (d_listU B.list_ (d_fld W.cl W.n_edge_ends (d_var 0))))))) ?hu, hm, W.cl, hbi⟩
  case len => rintro ds P ⟨m, e, rfl, _⟩; rfl
  case hu =>
    rintro ds P ⟨m, e, rfl, k⟩
    unfold U_Web_edges_0 webD
    walk_at "dm"
    refine ⟨_, _, rfl, rfl, ?_⟩
    show P (.ow (.lst ((dkv Sum.inr pD e).map fun kv => kD kv.1)))
    unfold dkv
    rw [List.map_map]
    exact k
structure RawOk (m : Mks) (e : Ens) : Prop extends WIn m e where
  ms : (m.map (·.1)).Pairwise (· < ·)
  el : ∀ p ∈ e, p.2.1 < p.2.2
def dI : D → Int
  | .int i => i
  | _ => 0
def dS : D → Str
  | .str z => z
  | _ => ⟨#[]⟩
theorem perm_int {ys : List D} {ns : List Int} (h : ys.Perm (ns.map .int)) : ∃ zs : List Int, zs.Perm ns ∧ ys = zs.map .int := by
  refine ⟨ys.map dI, ?_, ?_⟩
  · have := h.map dI
    rw [List.map_map, show (dI ∘ D.int) = id from rfl, List.map_id] at this
    exact this
  · rw [List.map_map]
    refine (List.map_id' ys).symm.trans (List.map_congr_left fun y hy => ?_)
    obtain ⟨n, _, rfl⟩ := List.mem_map.mp (h.subset hy)
    rfl
theorem perm_str {ys : List D} {ns : List Str} (h : ys.Perm (ns.map .str)) : ∃ zs : List Str, zs.Perm ns ∧ ys = zs.map .str := by
  refine ⟨ys.map dS, ?_, ?_⟩
  · have := h.map dS
    rw [List.map_map, show (dS ∘ D.str) = id from rfl, List.map_id] at this
    exact this
  · rw [List.map_map]
    refine (List.map_id' ys).symm.trans (List.map_congr_left fun y hy => ?_)
    obtain ⟨n, _, rfl⟩ := List.mem_map.mp (h.subset hy)
    rfl
def twelve : List Int := (List.range 12).map fun i : Nat => (i : Int)
theorem mix_range {P : R → Prop} (k : ∀ ns : List Int, ns.Nodup → (∀ n ∈ ns, 0 ≤ n ∧ n < 12) → ns.length = 12 → P (.ow (.lst (ns.map .int)))) : F__law_mixed [.lst (nums 0 (12 : Int).toNat)] P := by
  refine ⟨_, .inl rfl, by rw [nums_len]; decide, fun ys hy => ?_⟩
  have e : nums 0 (12 : Int).toNat = twelve.map .int := by rw [show (12 : Int).toNat = 12 from rfl, nums_range]; rfl
  rw [e] at hy
  obtain ⟨zs, hz, rfl⟩ := perm_int hy
  refine k zs (hz.nodup_iff.mpr (by decide)) (fun n hn => ?_) (by rw [hz.length_eq]; rfl)
  have := hz.subset hn
  obtain ⟨i, hi, rfl⟩ := List.mem_map.mp this
  have := List.mem_range.mp hi
  omega
def abcS : List Str := (List.range 24).map fun i => S [97 + i]
theorem abcS_nd : abcS.Nodup := by
  unfold abcS
  rw [List.nodup_iff_pairwise_ne, List.pairwise_map]
  exact (List.nodup_iff_pairwise_ne.mp List.nodup_range).imp fun ne e => ne (by
    have := S_inj.mp e
    simp at this
    exact this)
theorem mix_letters {P : R → Prop} (k : ∀ zs : List Str, zs.Nodup → (∀ z ∈ zs, IsNm z) → zs.length = 24 → P (.ow (.lst (zs.map .str)))) : F__law_mixed [.lst (DL.signs (Str.ofString "abcdefghijklmnopqrstuvwx"))] P := by
  refine ⟨_, .inl rfl, by decide, fun ys hy => ?_⟩
  have e : DL.signs (Str.ofString "abcdefghijklmnopqrstuvwx") = abcS.map .str := rfl
  rw [e] at hy
  obtain ⟨zs, hz, rfl⟩ := perm_str hy
  refine k zs (hz.nodup_iff.mpr abcS_nd) (fun z hn => ?_) (by rw [hz.length_eq]; rfl)
  obtain ⟨i, hi, rfl⟩ := List.mem_map.mp (hz.subset hn)
  have := List.mem_range.mp hi
  exact ⟨97 + i, rfl, by omega, by omega⟩
theorem lc_draw {α β : Type} {ui : DI} {ug : DG} {ue : DE} {vs : List Nat} {e : List Sl} {P : R → Prop} (ys : List α) (inj : α → D) (g : α → β → D) (p : β → Prop) (hi : ∀ Q : List D → Prop, Q (ys.map inj) → ui e Q) (hl : ys.length ≤ 1000000)
    (hb : ∀ y ∈ ys, ∀ S : D → Prop, (∀ x, p x → S (g y x)) → ug (inj y) (wipeE e vs) fun e2 => ue e2 (R.keep S)) (k : ∀ bs : List β, bs.length = ys.length → (∀ x ∈ bs, p x) → P (.ow (.lst ((ys.zip bs).map fun q => g q.1 q.2)))) : uLc ui ug uYes ue vs e P := by
  refine hi _ ⟨fun i acc => ∃ bs : List β, bs.length = i ∧ (∀ x ∈ bs, p x) ∧ acc = ((ys.take i).zip bs).map fun q => g q.1 q.2, ⟨[], rfl, by simp, by simp⟩, ?_, ?_⟩
  · rintro i x acc hx ⟨bs, h1, h2, rfl⟩
    rw [List.getElem?_map] at hx
    cases q : ys[i]? with
    | none => rw [q] at hx; cases hx
    | some y =>
      rw [q] at hx
      cases hx
      have hlt := (List.getElem?_eq_some_iff.mp q).1
      have ht : ys.take (i + 1) = ys.take i ++ [y] := by rw [List.take_add_one, q]; rfl
      refine hb y (List.mem_of_getElem? q) (fun d => (((ys.take i).zip bs).map fun q => g q.1 q.2).length < 1000000 ∧ ∃ bs', bs'.length = i + 1 ∧ (∀ x ∈ bs', p x) ∧ (((ys.take i).zip bs).map fun q => g q.1 q.2) ++ [d] = ((ys.take (i + 1)).zip bs').map fun q => g q.1 q.2) fun x hp => ⟨?_, bs ++ [x], by simp [h1], fun z hz => ?_, ?_⟩
      · rw [List.length_map, List.length_zip, List.length_take]; omega
      · rcases List.mem_append.mp hz with hz | hz
        · exact h2 z hz
        · rw [List.mem_singleton.mp hz]; exact hp
      · rw [ht, List.zip_append (by rw [List.length_take]; omega), List.map_append]; rfl
  · rintro acc ⟨bs, h1, h2, rfl⟩
    rw [List.length_map] at h1
    rw [List.length_map, List.take_length]
    exact k bs h1 h2
theorem for_G {α : Type} {ui : DI} {ug : DG} {ub : DS} {DD : DEnds} {e : List Sl} {inj : α → D} (G : List α → Prop) (hi : ∀ Q : List D → Prop, (∀ ys, G ys → Q (ys.map inj)) → ui e Q) (h : ∀ ys, G ys → uFor (fun _ P => P (ys.map inj)) ug ub DD e) : uFor ui ug ub DD e := hi _ h
theorem aput_new {α κ : Type} [DecidableEq κ] {e : List (κ × α)} {z : κ} {p : α} (h : z ∉ e.map (·.1)) : aput e z p = e ++ [(z, p)] := by
  unfold aput
  rw [if_neg]
  intro q
  rw [List.any_eq_true] at q
  obtain ⟨x, hx, e1⟩ := q
  exact h (List.mem_map.mpr ⟨x, hx, of_decide_eq_true e1⟩)
theorem pw_lt {l : List Int} (h : l.Pairwise (· ≤ ·)) (n : l.Nodup) : l.Pairwise (· < ·) := by
  have := (List.nodup_iff_pairwise_ne.mp n).and h
  exact this.imp fun ⟨a, c⟩ => by omega
theorem get_ltI {l : List Int} (h : l.Pairwise (· < ·)) {i j : Nat} {a c : Int} (ha : l[i]? = some a) (hc : l[j]? = some c) (hij : i < j) : a < c := by
  obtain ⟨h1, rfl⟩ := List.getElem?_eq_some_iff.mp ha
  obtain ⟨h2, rfl⟩ := List.getElem?_eq_some_iff.mp hc
  exact List.pairwise_iff_getElem.mp h i j h1 h2 hij
def F__law_raw : FS := fun ds P => ∃ w n : Nat, ds = [.int (w : Int), .int (n : Int)] ∧ w ≤ 12 ∧ n ≤ 24 ∧ ∀ m e, RawOk m e → P (.sh (rawD m e))
def U_law_raw_5_b_2 : DS := (uPut 7 (uVar 9) (uX (uTup (uCons (uBin fAt (uVar 4) (u2B fMin2 (uCons (uVar 10) (uCons (uVar 11) uNil)))) (uCons (uBin fAt (uVar 4) (u2B fMax2 (uCons (uVar 10) (uCons (uVar 11) uNil)))) uNil)))))
def U_law_raw_5_b_1 : DS := uSeq (uSet 11 (uX (uBin fMod (uBin fAdd (uBin fAdd (uVar 10) (uC (.int 1))) (uCallB fPull 0 (uCons (uBin fSub (uVar 3) (uC (.int 1))) uNil))) (uVar 3)))) U_law_raw_5_b_2
def U_law_raw_5_b_0 : DS := uSeq (uSet 10 (uX (uCallB fPull 0 (uCons (uVar 3) uNil)))) U_law_raw_5_b_1
def U_law_raw_6 : DS := (uRet (uX (uTup (uCons (uVar 5) (uCons (uVar 7) uNil)))))
def U_law_raw_5 : DS := uSeq (uFor (uItQ (uB fSortedV (uSl (uCallB F__law_mixed 0 (uCons (uB fListU (uCall F__law_letters uNil)) uNil)) uNo (uPart (uVar 8))))) (gNm 9) U_law_raw_5_b_0) (uFrz 7 U_law_raw_6)
def U_law_raw_4 : DS := uSeq (uSet 8 (uX (uIfE (uTest (uBin fGt (uVar 3) (uC (.int 1)))) (uCallB fPull 0 (uCons (uBin fAdd (uVar 2) (uC (.int 1))) uNil)) (uC (.int 0))))) U_law_raw_5
def U_law_raw_3 : DS := uSeq (uOwn 7 (uX uDict0)) U_law_raw_4
def U_law_raw_2 : DS := uSeq (uSet 5 (uX (uB fDict (uLc (uItQ (uVar 4)) (gNm 6) uYes (uTup (uCons (uVar 6) (uCons (uCallB fPull 0 (uCons (uC (.int 2)) uNil)) uNil))) [6])))) U_law_raw_3
def U_law_raw_1 : DS := uSeq (uSet 4 (uX (uB fSortedV (uSl (uCallB F__law_mixed 0 (uCons (uLRg (uC (.int 12))) uNil)) uNo (uPart (uVar 3)))))) U_law_raw_2
def U_law_raw_0 : DS := uSeq (uSet 3 (uX (uCallB fPull 0 (uCons (uBin fAdd (uVar 1) (uC (.int 1))) uNil)))) U_law_raw_1
theorem ok__law_raw (B : Bt mg) (K__law_pull : Known P w K mg base "_law_pull" 1 ["_law_bag_here", "_law_many"] (spB K fPull)) (K__law_mixed : Known P w K mg base "_law_mixed" 2 ["_law_bag_here", "_law_things"] (spB K F__law_mixed)) (K__law_letters : Known P w K mg base "_law_letters" 1 [] (spN K F__law_letters)) (Hr : Here K mg "_law_raw" s__law_raw ["_law_bag_here", "_law_wide", "_law_many"]) : Known P w K mg base "_law_raw" 3 ["_law_bag_here", "_law_wide", "_law_many"] (spB K F__law_raw) := by
  obtain ⟨f, fd, F, hm, hbi⟩ := Hr.ex
  refine fn_bag (u := U_law_raw_0) F hm hbi sc__law_raw ?len rfl (fun b cdv A outer s H E hr => (dss_cons
    (ds_set (i := 3) (PD.x (d_callB (i := 0) K__law_pull (hr.mono (by omega)) (da_cons (d_add (d_var 1) d_int) da_nil))) sc__law_raw.nd) (dss_cons
    (ds_set (i := 4) (PD.x (d_sortedV B.sorted_ (d_slice (d_callB (i := 0) K__law_mixed (hr.mono (by omega)) (da_cons (d_listRg B.list_ B.range_ d_int) da_nil)) do_none (do_some (d_var 3))))) sc__law_raw.nd) (dss_cons
    (ds_set (i := 5) (PD.x (d_dict1 B.dict_ (d_lc (own := [("_law_point", 6)]) sc__law_raw.nd (blkD (N := ["_law_bag_here", "_law_wide", "_law_many", "_law_size", "_law_points", "_law_marks", "_law_point", "_law_ends", "_law_most", "_law_letter", "_law_first", "_law_last"]) (sc := defScope s__law_raw) (by decide +kernel)) (by decide) (di_any (d_var 4)) (fun _ _ _ _ _ => (dg_name (i := 6) sc__law_raw.nd)) (fun _ _ _ _ _ => dts_nil) (fun _ _ _ _ _ => (d_tup (da_cons (d_var 6) (da_cons (d_callB (i := 0) K__law_pull (hr.mono (by omega)) (da_cons d_int da_nil)) da_nil))))))) sc__law_raw.nd) (dss_cons
    (ds_own (i := 7) (PD.x d_dict0) sc__law_raw.nd) (dss_cons
    (ds_set (i := 8) (PD.x (d_if (dt_gt (d_var 3) d_int) (d_callB (i := 0) K__law_pull (hr.mono (by omega)) (da_cons (d_add (d_var 2) d_int) da_nil)) d_int)) sc__law_raw.nd) (dss_cons
    (ds_for (di_any (d_sortedV B.sorted_ (d_slice (d_callB (i := 0) K__law_mixed (hr.mono (by omega)) (da_cons (d_listU B.list_ (d_call0 K__law_letters (hr.mono (by omega)))) da_nil)) do_none (do_some (d_var 8))))) (dg_name (i := 9) sc__law_raw.nd) (dss_cons
    (ds_set (i := 10) (PD.x (d_callB (i := 0) K__law_pull (hr.mono (by omega)) (da_cons (d_var 3) da_nil))) sc__law_raw.nd) (dss_cons
    (ds_set (i := 11) (PD.x (d_mod (d_add (d_add (d_var 10) d_int) (d_callB (i := 0) K__law_pull (hr.mono (by omega)) (da_cons (d_sub (d_var 3) d_int) da_nil))) (d_var 3))) sc__law_raw.nd) (dss_one
    (ds_put (i := 7) (hu_of hr) (d_var 9) (PD.x (d_tup (da_cons (d_at (hu_of hr) (d_var 4) (d_min2 B.min_ (da_cons (d_var 10) (da_cons (d_var 11) da_nil)))) (da_cons (d_at (hu_of hr) (d_var 4) (d_max2 B.max_ (da_cons (d_var 10) (da_cons (d_var 11) da_nil)))) da_nil))))))))) (dss_frz 7 (dss_one
    (ds_ret (PD.x (d_tup (da_cons (d_var 5) (da_cons (d_var 7) da_nil)))))))))))))) ?hu
  case len => rintro ds P ⟨w, n, rfl, _⟩; rfl
  case hu =>
    rintro ds P ⟨wd, n, rfl, hw, hn, k⟩
    unfold U_law_raw_0
    walk_at "dm"
    refine ⟨rfl, _, rfl, by omega, by omega, fun j j0 j1 => ?_⟩
    obtain ⟨s, rfl⟩ := Int.eq_ofNat_of_zero_le j0
    have hs : s ≤ 12 := by omega
    unfold U_law_raw_1
    walk_at "dm"
    refine ⟨rfl, 12, rfl, by decide, by decide, ?_⟩
    walk_at "dm"
    refine mix_range fun ns nd nr nl => ?_
    walk_at "dm"
    rw [cutD_to, ← List.map_take]
    refine sortV_I ?_
    have pnd : (srtI (ns.take s)).Nodup := (srtI_perm _).nodup_iff.mpr ((List.take_sublist s ns).nodup nd)
    have plt := pw_lt ((srtI_pw (ns.take s)).imp fun h => of_decide_eq_true h) pnd
    have plen : (srtI (ns.take s)).length = s := by rw [srtI_len, List.length_take, nl]; omega
    have prg : ∀ x ∈ srtI (ns.take s), 0 ≤ x ∧ x < 12 := fun x hx => nr x (List.mem_of_mem_take (srtI_mem.mp hx))
    generalize srtI (ns.take s) = pts at pnd plt plen prg
    walk_at "dm"
    unfold U_law_raw_2
    walk_at "dm"
    refine lc_draw pts D.int (fun x v => D.tup [.int x, .int v]) (fun v : Int => v = 0 ∨ v = 1) (fun Q q => q) (by omega) ?_ ?_
    · intro y hy S hS
      walk_at "dm"
      refine ⟨rfl, 2, rfl, by decide, by decide, fun v v0 v1 => ?_⟩
      exact ⟨by decide, hS v (by omega)⟩
    intro vs vl hv
    refine dict_pairs (l := pts.zip vs) inl_inj (f := D.int) (by rw [List.map_map]; rfl) (by rw [List.map_fst_zip (by omega)]; exact pnd) ?_
    walk_at "dm"
    have keys : (pts.zip vs).map (·.1) = pts := List.map_fst_zip (by omega)
    unfold U_law_raw_3
    walk_at "dm"
    unfold U_law_raw_4
    walk_at "dm"
    have main : ∀ mo : Nat, mo ≤ n → (0 < mo → 1 < s) → U_law_raw_5 ⟨fun _ => P (.sh .non), fun r _ => P r, fun _ => False, fun _ => False⟩ [.bag, .sh (.int (wd : Int)), .sh (.int (n : Int)), .sh (.int (s : Int)), .sh (.lst (pts.map D.int)), .sh (.dk (dkv Sum.inl D.int (pts.zip vs))), .un, .own none (.dk []), .sh (.int (mo : Int)), .un, .un, .un] := by
      intro mo h1 h2
      unfold U_law_raw_5
      walk_at "dm"
      refine for_G (inj := D.str) (fun zs => zs.Nodup ∧ (∀ z ∈ zs, IsNm z) ∧ (zs ≠ [] → 1 < s) ∧ zs.length ≤ 24) (fun Q q => ?_) ?_
      · walk_at "dm"
        refine ⟨rfl, rfl, ?_⟩
        walk_at "dm"
        refine ⟨by decide, mix_letters fun zs zn zm zl => ?_⟩
        walk_at "dm"
        rw [cutD_to, ← List.map_take]
        have tl : (zs.take mo).length ≤ 24 := by rw [List.length_take]; omega
        refine sortV_S (by omega) ?_
        walk_at "dm"
        refine q _ ⟨(srtS_perm _).nodup_iff.mpr ((List.take_sublist mo zs).nodup zn), fun z hz => zm z (List.mem_of_mem_take (srtS_mem.mp hz)), fun ne => h2 ?_, by rw [srtS_len]; exact tl⟩
        by_cases h0 : mo = 0
        · subst h0; exact absurd (List.length_eq_zero_iff.mp (by rw [srtS_len]; rfl)) ne
        · omega
      rintro zs ⟨zn, zm, zs1, zl⟩
      refine for_pre zs D.str (fun pre x => ∃ (e : Ens) (v9 v10 v11 : Sl), x = [.bag, .sh (.int (wd : Int)), .sh (.int (n : Int)), .sh (.int (s : Int)), .sh (.lst (pts.map D.int)), .sh (.dk (dkv Sum.inl D.int (pts.zip vs))), .un, .own none (.dk (dkv Sum.inr pD e)), .sh (.int (mo : Int)), v9, v10, v11] ∧ e.map (·.1) = pre ∧ ∀ p ∈ e, p.2.1 < p.2.2 ∧ p.2.1 ∈ pts ∧ p.2.2 ∈ pts) (fun Q q => q) ⟨[], .un, .un, .un, rfl, rfl, by simp⟩ ?_ ?_
      · rintro pre z post hp x ⟨e, v9, v10, v11, rfl, he, hok⟩
        have s1 : 1 < s := zs1 (by rw [hp]; simp)
        unfold U_law_raw_5_b_0
        walk_at "dm"
        refine ⟨rfl, _, rfl, by omega, by omega, fun f f0 f1 => ?_⟩
        unfold U_law_raw_5_b_1
        walk_at "dm"
        refine ⟨rfl, _, rfl, by omega, by omega, fun g g0 g1 => ?_⟩
        walk_at "dm"
        refine ⟨by omega, ?_⟩
        have l0 : 0 ≤ (f + 1 + g) % (s : Int) := Int.emod_nonneg _ (by omega)
        have l1 : (f + 1 + g) % (s : Int) < s := Int.emod_lt_of_pos _ (by omega)
        have lf : (f + 1 + g) % (s : Int) ≠ f := fun h => by
          have : (f + 1 + g) % (s : Int) = if f + 1 + g < s then f + 1 + g else f + 1 + g - s := by
            split
            · exact Int.emod_eq_of_lt (by omega) (by omega)
            · rw [← Int.sub_emod_right]
              exact Int.emod_eq_of_lt (by omega) (by omega)
          rw [this] at h
          split at h <;> omega
        generalize (f + 1 + g) % (s : Int) = l at l0 l1 lf
        unfold U_law_raw_5_b_2
        walk_at "dm"
        refine ⟨_, _, rfl, ?_⟩
        obtain ⟨i, ei⟩ : ∃ i : Nat, (if l < f then l else f) = (i : Int) := Int.eq_ofNat_of_zero_le (by split <;> omega)
        obtain ⟨j, ej⟩ : ∃ j : Nat, (if l > f then l else f) = (j : Int) := Int.eq_ofNat_of_zero_le (by split <;> omega)
        have hij : i < j ∧ j < s := by
          split at ei <;> split at ej <;> omega
        rw [ei]
        have gi : pts[i]? = some pts[i] := List.getElem?_eq_getElem (by omega)
        have gj : pts[j]? = some pts[j] := List.getElem?_eq_getElem (by omega)
        refine ix_at (x := .int pts[i]) (by rw [List.getElem?_map, gi]; rfl) ?_
        walk_at "dm"
        refine ⟨_, _, rfl, ?_⟩
        rw [ej]
        refine ix_at (x := .int pts[j]) (by rw [List.getElem?_map, gj]; rfl) ?_
        walk_at "dm"
        refine ⟨by decide, ⟨_, _, rfl⟩, _, _, _, rfl, rfl, ?_, ?_⟩
        · rw [dkv_len]
          have := congrArg List.length he
          rw [List.length_map] at this
          have := congrArg List.length hp
          rw [List.length_append] at this
          omega
        · have zne : z ∉ e.map (·.1) := fun hm => by
            rw [he] at hm
            rw [hp, List.nodup_append] at zn
            exact zn.2.2 z hm z (by simp) rfl
          rw [show D.tup [.int pts[i], .int pts[j]] = pD (pts[i], pts[j]) from rfl, putD_dkv inr_inj, aput_new zne]
          refine ⟨_, _, _, _, rfl, by rw [List.map_append, he]; rfl, fun p hp => ?_⟩
          rcases List.mem_append.mp hp with hp | hp
          · exact hok p hp
          · rw [List.mem_singleton.mp hp]
            exact ⟨get_ltI plt gi gj hij.1, List.getElem_mem _, List.getElem_mem _⟩
      · rintro x ⟨e, v9, v10, v11, rfl, he, hok⟩
        walk_at "dm"
        unfold U_law_raw_6
        walk_at "dm"
        refine ⟨by decide, k (pts.zip vs) e ⟨⟨by rw [keys]; exact pnd, fun p hp => ?_, by rw [he]; exact zn, fun p hp => ?_⟩, by rw [keys]; exact plt, fun p hp => (hok p hp).1⟩⟩
        · obtain ⟨q1, q2⟩ := List.of_mem_zip hp
          exact ⟨(prg _ q1).1, (prg _ q1).2, hv _ q2⟩
        · obtain ⟨q1, q2, q3⟩ := hok p hp
          rw [keys]
          exact ⟨zm _ (by rw [← he]; exact List.mem_map.mpr ⟨p, hp, rfl⟩), by omega, q2, q3⟩
    by_cases h1s : (1 : Int) < (s : Int)
    · rw [decide_eq_true h1s, if_pos rfl]
      refine ⟨rfl, _, rfl, by omega, by omega, fun g g0 g1 => ?_⟩
      obtain ⟨mo, rfl⟩ := Int.eq_ofNat_of_zero_le g0
      walk_at "dm"
      exact main mo (by omega) (fun _ => by omega)
    · rw [decide_eq_false h1s, if_neg (by decide)]
      exact main 0 (by omega) (fun h => by omega)
-- §SPLIT
/-! webs cut and contracted: the mathematics -/
theorem aget_none {α κ : Type} [DecidableEq κ] {m : List (κ × α)} {n : κ} (h : n ∉ m.map (·.1)) : aget m n = none := by
  cases q : aget m n with
  | none => rfl
  | some a => exact absurd (aget_mem.mp (by rw [q]; rfl)) h
theorem aget_srtE' (e : Ens) (z : Str) : aget (srtE e) z = (aget e z).map sp := by
  cases h : aget e z with
  | some v => exact aget_srtE h
  | none =>
    refine aget_none fun y => ?_
    rw [srtE_keys] at y
    obtain ⟨v, hv⟩ := aget_key (srtS_mem.mp y)
    rw [h] at hv; cases hv
theorem srtM_nd {m : Mks} (h : (m.map (·.1)).Nodup) : ((srtM m).map (·.1)).Nodup := by rw [srtM_keys]; exact (srtI_perm _).nodup_iff.mpr h
theorem srtE_nd {e : Ens} (h : (e.map (·.1)).Nodup) : ((srtE e).map (·.1)).Nodup := by rw [srtE_keys]; exact (srtS_perm _).nodup_iff.mpr h
theorem srtM_len (m : Mks) : (srtM m).length = m.length := by unfold srtM; rw [List.length_map, srtI_len, List.length_map]
theorem srtE_len (e : Ens) : (srtE e).length = e.length := by unfold srtE; rw [List.length_map, srtS_len, List.length_map]
theorem sp_or (p : Int × Int) : sp p = p ∨ sp p = (p.2, p.1) := by unfold sp; split <;> simp
theorem sp_lt {p : Int × Int} (h : p.1 < p.2) : sp p = p := by unfold sp; rw [if_neg (by omega)]
theorem win_srt {m : Mks} {e : Ens} (h : WIn m e) : WIn (srtM m) (srtE e) := by
  have keys : ∀ x, x ∈ (srtM m).map (·.1) ↔ x ∈ m.map (·.1) := fun x => by rw [srtM_keys]; exact srtI_mem
  refine ⟨srtM_nd h.mn, fun p hp => ?_, srtE_nd h.en, fun p hp => ?_⟩
  · obtain ⟨n, hn, rfl⟩ := List.mem_map.mp hp
    obtain ⟨v, hv⟩ := aget_key (srtI_mem.mp hn)
    rw [hv]
    exact h.mr _ (aget_in hv)
  · obtain ⟨z, hz, rfl⟩ := List.mem_map.mp hp
    obtain ⟨p, hp⟩ := aget_key (srtS_mem.mp hz)
    obtain ⟨h1, h2, h3, h4⟩ := h.er _ (aget_in hp)
    rw [hp]
    refine ⟨h1, ?_⟩
    show (sp p).1 ≠ (sp p).2 ∧ _
    rw [keys, keys]
    show (sp p).1 ≠ (sp p).2 ∧ (sp p).1 ∈ _ ∧ (sp p).2 ∈ _
    rcases sp_or p with q | q <;> rw [q]
    · exact ⟨h2, h3, h4⟩
    · exact ⟨Ne.symm h2, h4, h3⟩
def xUnk (e : Addr) (z : Str) : XD := (e, [("code", .str "unknownedge"), ("name", .str z)])
def xNod (e : Addr) (n : Int) : XD := (e, [("code", .str "unknownnode"), ("node", .int n)])
def F_Web_ends (e_UnknownNode e_UnknownEdge e_InvalidNode e_LimitExceeded cWeb : Addr) : FSX := fun ds P XP => ∃ m e z, ds = [webD cWeb m e, .str z] ∧ (∀ p, aget e z = some p → P (.sh (pD p))) ∧ (aget e z = none → XP (xUnk e_UnknownEdge z))
def U_Web_ends_0_t_0 (e_UnknownNode : Addr) (e_UnknownEdge : Addr) (e_InvalidNode : Addr) (e_LimitExceeded : Addr) (xp : XD → Prop) (cWeb : Addr) : DS := (uRaise xp e_UnknownEdge (fE2 "name" "code" "unknownedge") (uCons (uVar 1) uNil))
def U_Web_ends_1 (e_UnknownNode : Addr) (e_UnknownEdge : Addr) (e_InvalidNode : Addr) (e_LimitExceeded : Addr) (xp : XD → Prop) (cWeb : Addr) : DS := (uRet (uX (uBin fAt (uFld cWeb "edge_ends" (uVar 0)) (uVar 1))))
def U_Web_ends_0 (e_UnknownNode : Addr) (e_UnknownEdge : Addr) (e_InvalidNode : Addr) (e_LimitExceeded : Addr) (xp : XD → Prop) (cWeb : Addr) : DS := uSeq (uIf (uTest (uBin (fInU true) (uVar 1) (uFld cWeb "edge_ends" (uVar 0)))) (U_Web_ends_0_t_0 e_UnknownNode e_UnknownEdge e_InvalidNode e_LimitExceeded xp cWeb) uNext) (U_Web_ends_1 e_UnknownNode e_UnknownEdge e_InvalidNode e_LimitExceeded xp cWeb)
theorem ok_Web_ends {cWeb : Addr} {mc : Value} (B : Bt mg) {e_UnknownNode e_UnknownEdge e_InvalidNode e_LimitExceeded : Addr} (E_UnknownEdge : KnownEL P w K mg base "UnknownEdge" e_UnknownEdge 1 ["self", "name"] (fE2 "name" "code" "unknownedge")) (W : WebC K mg cWeb mc)  (Hr : HereM K cWeb "ends" "Web.ends" s_Web_ends ["self", "edge"]) : KnownMX P w K mg base cWeb "ends" 3 ["self", "edge"] (spX K (F_Web_ends e_UnknownNode e_UnknownEdge e_InvalidNode e_LimitExceeded cWeb)) := by
  obtain ⟨f, fd, F, hm, hbi⟩ := Hr.ex
  refine ⟨f, fd, fnOk_MX (u := fun xp => (U_Web_ends_0 e_UnknownNode e_UnknownEdge e_InvalidNode e_LimitExceeded xp cWeb)) F sc_Web_ends ?len (fun xp cdv A outer s H E hr tk hp => (dss_cons
    (ds_if (dt_notinU (hu_of hr) (d_var 1) (d_fld W.cl W.n_edge_ends (d_var 0))) (dss_one
    (ds_raiseL tk E_UnknownEdge (hr.mono (by omega)) (da_cons (d_var 1) da_nil))) dss_nil) (dss_one
    (ds_ret (PD.x (d_at (hu_of hr) (d_fld W.cl W.n_edge_ends (d_var 0)) (d_var 1))))))) ?hu, hm, W.cl, hbi⟩
  case len => rintro ds P XP ⟨m, e, z, rfl, _⟩; rfl
  case hu =>
    rintro ds P XP ⟨m, e, z, rfl, k, kx⟩
    unfold U_Web_ends_0 webD
    walk_at "dm"
    refine ⟨_, _, rfl, rfl, in_ek ?_⟩
    cases h : aget e z with
    | none =>
      rw [decide_eq_false (fun z => by rw [← aget_mem, h] at z; cases z)]
      unfold U_Web_ends_0_t_0
      walk_at "dm"
      exact ⟨by decide, _, rfl, kx h⟩
    | some p =>
      rw [decide_eq_true (aget_mem.mp (by rw [h]; rfl))]
      unfold U_Web_ends_1
      walk_at "dm"
      exact ⟨_, _, rfl, rfl, at_ek h (k p h)⟩
def F_Web_mark (e_UnknownNode e_UnknownEdge e_InvalidNode e_LimitExceeded cWeb : Addr) : FSX := fun ds P XP => ∃ m e n, ds = [webD cWeb m e, .int n] ∧ (∀ v, aget m n = some v → P (.sh (.int v))) ∧ (aget m n = none → XP (xNod e_UnknownNode n))
def U_Web_mark_0_t_0 (e_UnknownNode : Addr) (e_UnknownEdge : Addr) (e_InvalidNode : Addr) (e_LimitExceeded : Addr) (xp : XD → Prop) (cWeb : Addr) : DS := (uRaise xp e_UnknownNode (fE2 "node" "code" "unknownnode") (uCons (uVar 1) uNil))
def U_Web_mark_1 (e_UnknownNode : Addr) (e_UnknownEdge : Addr) (e_InvalidNode : Addr) (e_LimitExceeded : Addr) (xp : XD → Prop) (cWeb : Addr) : DS := (uRet (uX (uBin fAt (uFld cWeb "node_marks" (uVar 0)) (uVar 1))))
def U_Web_mark_0 (e_UnknownNode : Addr) (e_UnknownEdge : Addr) (e_InvalidNode : Addr) (e_LimitExceeded : Addr) (xp : XD → Prop) (cWeb : Addr) : DS := uSeq (uIf (uTest (uBin (fInU true) (uVar 1) (uFld cWeb "node_marks" (uVar 0)))) (U_Web_mark_0_t_0 e_UnknownNode e_UnknownEdge e_InvalidNode e_LimitExceeded xp cWeb) uNext) (U_Web_mark_1 e_UnknownNode e_UnknownEdge e_InvalidNode e_LimitExceeded xp cWeb)
theorem ok_Web_mark {cWeb : Addr} {mc : Value} (B : Bt mg) {e_UnknownNode e_UnknownEdge e_InvalidNode e_LimitExceeded : Addr} (E_UnknownNode : KnownEL P w K mg base "UnknownNode" e_UnknownNode 1 ["self", "node"] (fE2 "node" "code" "unknownnode")) (W : WebC K mg cWeb mc)  (Hr : HereM K cWeb "mark" "Web.mark" s_Web_mark ["self", "node"]) : KnownMX P w K mg base cWeb "mark" 3 ["self", "node"] (spX K (F_Web_mark e_UnknownNode e_UnknownEdge e_InvalidNode e_LimitExceeded cWeb)) := by
  obtain ⟨f, fd, F, hm, hbi⟩ := Hr.ex
  refine ⟨f, fd, fnOk_MX (u := fun xp => (U_Web_mark_0 e_UnknownNode e_UnknownEdge e_InvalidNode e_LimitExceeded xp cWeb)) F sc_Web_mark ?len (fun xp cdv A outer s H E hr tk hp => (dss_cons
    (ds_if (dt_notinU (hu_of hr) (d_var 1) (d_fld W.cl W.n_node_marks (d_var 0))) (dss_one
    (ds_raiseL tk E_UnknownNode (hr.mono (by omega)) (da_cons (d_var 1) da_nil))) dss_nil) (dss_one
    (ds_ret (PD.x (d_at (hu_of hr) (d_fld W.cl W.n_node_marks (d_var 0)) (d_var 1))))))) ?hu, hm, W.cl, hbi⟩
  case len => rintro ds P XP ⟨m, e, n, rfl, _⟩; rfl
  case hu =>
    rintro ds P XP ⟨m, e, n, rfl, k, kx⟩
    unfold U_Web_mark_0 webD
    walk_at "dm"
    refine ⟨_, _, rfl, rfl, in_mk ?_⟩
    cases h : aget m n with
    | none =>
      rw [decide_eq_false (fun z => by rw [← aget_mem, h] at z; cases z)]
      unfold U_Web_mark_0_t_0
      walk_at "dm"
      exact ⟨by decide, _, rfl, kx h⟩
    | some v =>
      rw [decide_eq_true (aget_mem.mp (by rw [h]; rfl))]
      unfold U_Web_mark_1
      walk_at "dm"
      exact ⟨_, _, rfl, rfl, at_mk h (k v h)⟩
theorem inD2 (a c d : Int) : inD (.int a) [.int c, .int d] = (a == c || a == d) := by
  have e : ∀ x y : Int, (y == x) = (x == y) := fun x y => by rw [Bool.eq_iff_iff, beq_iff_eq, beq_iff_eq]; exact eq_comm
  show ((decide (c = a)) || ((decide (d = a)) || false)) = _
  rw [Bool.or_false, Bool.eq_iff_iff]
  simp only [Bool.or_eq_true, decide_eq_true_eq, beq_iff_eq]
  constructor <;> rintro (h | h) <;> simp [h]
def onE (n : Int) (p : Int × Int) : Bool := n == p.1 || n == p.2
theorem onE_sp (n : Int) (p : Int × Int) : onE n (sp p) = onE n p := by
  unfold onE sp
  split
  · rw [Bool.or_comm]
  · rfl
/-- names of one letter each, as a text -/
def txtE (zs : List Str) : List Nat := zs.map fun z => z.cps.toList.headD 0
theorem txtE_chs : ∀ {zs : List Str}, (∀ z ∈ zs, IsNm z) → zs.map D.str = chs (txtE zs)
  | [], _ => rfl
  | z :: zs, h => by
    obtain ⟨c, e, _⟩ := h z (by simp)
    have ih := txtE_chs (zs := zs) fun y hy => h y (List.mem_cons_of_mem _ hy)
    show D.str z :: zs.map D.str = D.str (S [z.cps.toList.headD 0]) :: chs (txtE zs)
    rw [ih, e]
    rfl
def atE (n : Int) (e : Ens) : List Nat := txtE ((e.filter fun p => onE n p.2).map (·.1))
def F_Web_edges_of (e_UnknownNode e_UnknownEdge e_InvalidNode e_LimitExceeded cWeb : Addr) : FSX := fun ds P XP => ∃ m e n, ds = [webD cWeb m e, .int n] ∧ e.length ≤ 24 ∧ (∀ p ∈ e, IsNm p.1) ∧ (∀ v, aget m n = some v → P (.sh (.str (S (atE n e))))) ∧ (aget m n = none → XP (xNod e_UnknownNode n))
def U_Web_edges_of_1 (e_UnknownNode : Addr) (e_UnknownEdge : Addr) (e_InvalidNode : Addr) (e_LimitExceeded : Addr) (xp : XD → Prop) (cWeb : Addr) : DS := (uRet (uX (uM1 fJoin (uC (.str "")) (uLc (uItW (vFld cWeb "edge_ends" (vVar 0)) (fun kv => .tup [kD kv.1, kv.2])) (gTp (gsCons (gNm 2) (gsCons (gNm 3) gsNil))) (uTest (uBin (fInU false) (uVar 1) (uVar 3))) (uVar 2) [2, 3]))))
def U_Web_edges_of_0 (e_UnknownNode : Addr) (e_UnknownEdge : Addr) (e_InvalidNode : Addr) (e_LimitExceeded : Addr) (xp : XD → Prop) (cWeb : Addr) : DS := uSeq (uDrop (uX (uMethX cWeb "mark" (F_Web_mark e_UnknownNode e_UnknownEdge e_InvalidNode e_LimitExceeded cWeb) xp (uVar 0) (uCons (uVar 1) uNil)))) (U_Web_edges_of_1 e_UnknownNode e_UnknownEdge e_InvalidNode e_LimitExceeded xp cWeb)
theorem ok_Web_edges_of {cWeb : Addr} {mc : Value} (B : Bt mg) {e_UnknownNode e_UnknownEdge e_InvalidNode e_LimitExceeded : Addr} (W : WebC K mg cWeb mc) (K_Web_mark : KnownMX P w K mg base cWeb "mark" 3 ["self", "node"] (spX K (F_Web_mark e_UnknownNode e_UnknownEdge e_InvalidNode e_LimitExceeded cWeb))) (Hr : HereM K cWeb "edges_of" "Web.edges_of" s_Web_edges_of ["self", "node"]) : KnownMX P w K mg base cWeb "edges_of" 4 ["self", "node"] (spX K (F_Web_edges_of e_UnknownNode e_UnknownEdge e_InvalidNode e_LimitExceeded cWeb)) := by
  obtain ⟨f, fd, F, hm, hbi⟩ := Hr.ex
  refine ⟨f, fd, fnOk_MX (u := fun xp => (U_Web_edges_of_0 e_UnknownNode e_UnknownEdge e_InvalidNode e_LimitExceeded xp cWeb)) F sc_Web_edges_of ?len (fun xp cdv A outer s H E hr tk hp => (dss_cons
    (ds_expr (PD.x (d_methX tk K_Web_mark (hr.mono (by omega)) (d_var 0) (da_cons (d_var 1) da_nil)))) (dss_one
    (ds_ret (PD.x (d_join d_str (d_lcV (own := [("name", 2), ("pair", 3)]) sc_Web_edges_of.nd (blkD (N := ["self", "node", "name", "pair"]) (sc := defScope s_Web_edges_of) (by decide +kernel)) (by decide) (walk_items (pv_fldE W.cl W.n_edge_ends (pv_var 0))) (fun _ _ _ _ _ => (dg_tup (n := 2) (dgs_cons (dg_name (i := 2) sc_Web_edges_of.nd) (dgs_cons (dg_name (i := 3) sc_Web_edges_of.nd) dgs_nil)) (gl_cons gx_name (gl_cons gx_name gl_nil)))) (fun _ _ _ _ _ => (dts_one (dt_inU (hu_of hr) (d_var 1) (d_var 3)))) (fun _ _ _ _ _ => (d_var 2))))))))) ?hu, hm, W.cl, hbi⟩
  case len => rintro ds P XP ⟨m, e, n, rfl, _⟩; rfl
  case hu =>
    rintro ds P XP ⟨m, e, n, rfl, el, hn, k, kx⟩
    unfold U_Web_edges_of_0
    walk_at "dm"
    refine ⟨_, rfl, rfl, m, e, n, rfl, fun v hv => ?_, kx⟩
    have k := k v hv
    walk_at "dm"
    unfold U_Web_edges_of_1 webD
    walk_at "dm"
    refine ⟨⟨_, rfl⟩, ?_⟩
    refine lc_pure e (fun p => .tup [.str p.1, pD p.2]) (fun p => onE n p.2) (fun p => .str p.1) (fun Q q => ⟨dkv Sum.inr pD e, ⟨_, rfl, rfl⟩, ?_⟩) (by omega) (fun p hp S' T' hS hT => ?_) ?_
    · unfold dkv
      rw [List.map_map]
      exact q
    · rw [show pD p.2 = .tup [.int p.2.1, .int p.2.2] from rfl]
      walk_at "dm"
      refine ⟨rfl, rfl, rfl, ?_⟩
      have hh : inD (.int n) [.int p.2.1, .int p.2.2] = onE n p.2 := inD2 _ _ _
      cases hb : onE n p.2 with
      | true =>
        rw [hb] at hh
        exact Eq.mpr (if_pos hh) (hS hb)
      | false =>
        rw [hb] at hh
        exact Eq.mpr (if_neg (by rw [hh]; decide)) (hT hb)
    · walk_at "dm"
      have h1 : (e.filter fun p => onE n p.2).map (fun p => D.str p.1) = chs (atE n e) := by
        unfold atE
        rw [← txtE_chs, List.map_map]
        · rfl
        · intro z hz
          obtain ⟨p, hp, rfl⟩ := List.mem_map.mp hz
          exact hn p (List.mem_filter.mp hp).1
      rw [h1]
      have h2 : (atE n e).length ≤ 24 := by
        unfold atE txtE
        rw [List.length_map, List.length_map]
        exact Nat.le_trans (List.length_filter_le _ _) el
      exact fJoin_chs (by omega) k
def F_Web_nodes (cWeb : Addr) : FS := fun ds P => ∃ m e, ds = [webD cWeb m e] ∧ P (.ow (.lst (m.map fun p => .int p.1)))
def U_Web_nodes_0 (cWeb : Addr) : DS := (uRet (uX (uB fListU (uFld cWeb "node_marks" (uVar 0)))))
theorem ok_Web_nodes {cWeb : Addr} {mc : Value} (B : Bt mg) (W : WebC K mg cWeb mc)  (Hr : HereM K cWeb "nodes" "Web.nodes" s_Web_nodes ["self"]) : KnownM P w K mg base cWeb "nodes" 1 ["self"] (spN K (F_Web_nodes cWeb)) := by
  obtain ⟨f, fd, F, hm, hbi⟩ := Hr.ex
  refine ⟨f, fd, fn_dataM (u := (U_Web_nodes_0 cWeb)) F hbi sc_Web_nodes ?len (fun cdv A outer s H E hr => (dss_one
    (ds_ret (PD.x (d_listU B.list_ (d_fld W.cl W.n_node_marks (d_var 0))))))) ?hu, hm, W.cl, hbi⟩
  case len => rintro ds P ⟨m, e, rfl, _⟩; rfl
  case hu =>
    rintro ds P ⟨m, e, rfl, k⟩
    unfold U_Web_nodes_0 webD
    walk_at "dm"
    refine ⟨_, _, rfl, rfl, ?_⟩
    show P (.ow (.lst ((dkv Sum.inl D.int m).map fun kv => kD kv.1)))
    unfold dkv
    rw [List.map_map]
    exact k
/-! nodes that an edge joins; what can be reached -/
def adj (e : Ens) (x y : Int) : Prop := ∃ z p, aget e z = some p ∧ (p = (x, y) ∨ p = (y, x))
def Rch (e : Ens) (a x : Int) : Prop := ∀ S : Int → Prop, S a → (∀ x y, S x → adj e x y → S y) → S x
theorem adj_symm {e : Ens} {x y : Int} (h : adj e x y) : adj e y x := by
  obtain ⟨z, p, h1, h2⟩ := h
  exact ⟨z, p, h1, h2.symm⟩
theorem Rch.refl (e : Ens) (a : Int) : Rch e a a := fun _ h _ => h
theorem Rch.step {e : Ens} {a x y : Int} (h : Rch e a x) (j : adj e x y) : Rch e a y := fun S h0 hs => hs x y (h S h0 hs) j
theorem Rch.trans {e : Ens} {a x y : Int} (h : Rch e a x) (j : Rch e x y) : Rch e a y := j (fun y => Rch e a y) h fun _ _ h j => h.step j
theorem Rch.symm {e : Ens} {a x : Int} (h : Rch e a x) : Rch e x a := h (fun x => Rch e x a) (Rch.refl e a) fun _ _ h j => ((Rch.refl e _).step (adj_symm j)).trans h
theorem Rch.congr {e e' : Ens} (h : ∀ x y, adj e x y → adj e' x y) {a x : Int} (r : Rch e a x) : Rch e' a x := r (fun x => Rch e' a x) (Rch.refl e' a) fun _ _ r j => r.step (h _ _ j)
theorem adj_in {m : Mks} {e : Ens} (W : WIn m e) {x y : Int} (j : adj e x y) : y ∈ m.map (·.1) := by
  obtain ⟨z, p, h1, h2⟩ := j
  obtain ⟨_, _, h3, h4⟩ := W.er _ (aget_in h1)
  rcases h2 with h2 | h2
  · subst h2; exact h4
  · subst h2; exact h3
open Classical in
/-- the nodes that n can reach, in order -/
noncomputable def compL (m : Mks) (e : Ens) (n : Int) : List Int := (srtI (m.map (·.1))).filter fun x => decide (Rch e n x)
theorem compL_mem {m : Mks} {e : Ens} {n x : Int} : x ∈ compL m e n ↔ x ∈ m.map (·.1) ∧ Rch e n x := by
  unfold compL
  rw [List.mem_filter, srtI_mem]
  simp
theorem compL_pw {m : Mks} {e : Ens} (W : WIn m e) (n : Int) : (compL m e n).Pairwise (· < ·) :=
  List.Pairwise.filter _ (pw_lt ((srtI_pw (m.map (·.1))).imp fun h => of_decide_eq_true h) ((srtI_perm _).nodup_iff.mpr W.mn))
theorem compL_nd {m : Mks} {e : Ens} (W : WIn m e) (n : Int) : (compL m e n).Nodup := (compL_pw W n).imp fun h => Int.ne_of_lt h
/-- a list of the same nodes, each once, put in order -/
theorem compL_of {m : Mks} {e : Ens} (W : WIn m e) {n : Int} {l : List Int} (nd : l.Nodup) (h : ∀ x, x ∈ l ↔ x ∈ m.map (·.1) ∧ Rch e n x) : srtI l = compL m e n :=
  (srtI_eq (perm_mem (compL_nd W n) nd fun y => compL_mem.trans (h y).symm) ((compL_pw W n).imp fun h => Int.le_of_lt h)).symm
theorem compL_congr {m m' : Mks} {e e' : Ens} (W : WIn m e) (W' : WIn m' e') {n n' : Int} (h : ∀ x, (x ∈ m.map (·.1) ∧ Rch e n x) ↔ (x ∈ m'.map (·.1) ∧ Rch e' n' x)) : compL m e n = compL m' e' n' := by
  rw [← compL_of W (compL_nd W n) fun x => compL_mem, ← compL_of W' (compL_nd W n) fun x => compL_mem.trans (h x)]
theorem compL_self {m : Mks} {e : Ens} {n : Int} (h : n ∈ m.map (·.1)) : n ∈ compL m e n := compL_mem.mpr ⟨h, Rch.refl e n⟩
theorem compL_ne {m : Mks} {e : Ens} {n : Int} (h : n ∈ m.map (·.1)) : compL m e n ≠ [] := fun z => by
  have := compL_self (e := e) h
  rw [z] at this; cases this
theorem compL_same {m : Mks} {e : Ens} (W : WIn m e) {n x : Int} (h : x ∈ compL m e n) : compL m e x = compL m e n := by
  obtain ⟨h1, h2⟩ := compL_mem.mp h
  exact compL_congr W W fun y => ⟨fun ⟨a, r⟩ => ⟨a, h2.trans r⟩, fun ⟨a, r⟩ => ⟨a, h2.symm.trans r⟩⟩
theorem onE_iff {n : Int} {p : Int × Int} : onE n p = true ↔ (n = p.1 ∨ n = p.2) := by
  unfold onE
  simp
/-- the other end -/
def oth (n : Int) (p : Int × Int) : Int := if n = p.1 then p.2 else p.1
theorem adj_oth {e : Ens} {z : Str} {p : Int × Int} {n : Int} (h : aget e z = some p) (o : onE n p = true) : adj e n (oth n p) := by
  refine ⟨z, p, h, ?_⟩
  unfold oth
  rcases onE_iff.mp o with rfl | rfl
  · rw [if_pos rfl]; exact .inl rfl
  · by_cases e1 : p.2 = p.1
    · rw [if_pos e1]
      refine .inl (Prod.ext e1.symm rfl)
    · rw [if_neg e1]; exact .inr rfl
theorem oth_adj {p : Int × Int} {x y : Int} (h : p = (x, y) ∨ p = (y, x)) : onE x p = true ∧ oth x p = y := by
  unfold oth
  rcases h with rfl | rfl
  · exact ⟨onE_iff.mpr (.inl rfl), by simp⟩
  · refine ⟨onE_iff.mpr (.inr rfl), ?_⟩
    by_cases e1 : x = y
    · subst e1; simp
    · rw [if_neg (by simpa using e1)]
def F__law_at : FS := fun ds P => ∃ m e n, ds = [rawD m e, .int n] ∧ WIn m e ∧ P (.sh (.str (S (atE n (srtE e)))))
def U_law_at_0 : DS := (uRet (uX (uM1 fJoin (uC (.str "")) (uLc (uItQ (uB fSortedV (uBin fAt (uVar 0) (uC (.int 1))))) (gNm 2) (uTest (uBin (fInU false) (uVar 1) (uBin fAt (uBin fAt (uVar 0) (uC (.int 1))) (uVar 2)))) (uVar 2) [2]))))
theorem at_law {m : Mks} {e : Ens} (h : WIn m e) (n : Int) : ((srtS (e.map (·.1))).filter fun z => onE n ((aget e z).getD (0, 0))).map D.str = chs (atE n (srtE e)) := by
  unfold atE
  rw [← txtE_chs]
  · unfold srtE
    rw [List.filter_map, List.map_map, List.map_map]
    have : ((fun p : Str × (Int × Int) => onE n p.2) ∘ fun z => (z, sp ((aget e z).getD (0, 0)))) = fun z => onE n ((aget e z).getD (0, 0)) := funext fun z => onE_sp n _
    rw [this]
    rfl
  · intro z hz
    obtain ⟨p, hp, rfl⟩ := List.mem_map.mp hz
    exact ((win_srt h).er p (List.mem_filter.mp hp).1).1
theorem ok__law_at (B : Bt mg)  (Hr : Here K mg "_law_at" s__law_at ["_law_raw_here", "_law_point"]) : Known P w K mg base "_law_at" 1 ["_law_raw_here", "_law_point"] (spN K F__law_at) := by
  obtain ⟨f, fd, F, hm, hbi⟩ := Hr.ex
  refine fn_data (u := U_law_at_0) F hm hbi sc__law_at ?len (fun cdv A outer s H E hr => (dss_one
    (ds_ret (PD.x (d_join d_str (d_lc (own := [("_law_letter", 2)]) sc__law_at.nd (blkD (N := ["_law_raw_here", "_law_point", "_law_letter"]) (sc := defScope s__law_at) (by decide +kernel)) (by decide) (di_any (d_sortedV B.sorted_ (d_at (hu_of hr) (d_var 0) d_int))) (fun _ _ _ _ _ => (dg_name (i := 2) sc__law_at.nd)) (fun _ _ _ _ _ => (dts_one (dt_inU (hu_of hr) (d_var 1) (d_at (hu_of hr) (d_at (hu_of hr) (d_var 0) d_int) (d_var 2))))) (fun _ _ _ _ _ => (d_var 2)))))))) ?hu
  case len => rintro ds P ⟨m, e, n, rfl, _⟩; rfl
  case hu =>
    rintro ds P ⟨m, e, n, rfl, W0, k⟩
    have el := W0.elen
    have l2 : (srtS (e.map (·.1))).length ≤ 24 := by rw [srtS_len, List.length_map]; exact el
    unfold U_law_at_0 rawD eD
    walk_at "dm"
    refine ⟨⟨_, rfl⟩, ?_⟩
    refine lc_pure (srtS (e.map (·.1))) D.str (fun z => onE n ((aget e z).getD (0, 0))) D.str (fun Q q => by refine sortV_ek (by omega) ?_; exact q) (by omega) (fun z hz S' T' hS hT => ?_) ?_
    · obtain ⟨p, hp⟩ := aget_key (srtS_mem.mp hz)
      rw [hp] at hS hT
      walk_at "dm"
      refine at_ek hp ?_
      rw [show pD p = .tup [.int p.1, .int p.2] from rfl]
      walk_at "dm"
      refine ⟨rfl, rfl, ?_⟩
      have hh : inD (.int n) [.int p.1, .int p.2] = onE n p := inD2 _ _ _
      cases hb : onE n p with
      | true =>
        rw [hb] at hh
        exact Eq.mpr (if_pos hh) (hS hb)
      | false =>
        rw [hb] at hh
        exact Eq.mpr (if_neg (by rw [hh]; decide)) (hT hb)
    · rw [at_law W0]
      walk_at "dm"
      have h2 : (atE n (srtE e)).length ≤ 24 := by
        unfold atE txtE
        rw [List.length_map, List.length_map]
        exact Nat.le_trans (List.length_filter_le _ _) (by rw [srtE_len]; exact el)
      exact fJoin_chs (by omega) k
def F__law_web (cWeb : Addr) : FS := fun ds P => ∃ m e, ds = [rawD m e] ∧ WIn m e ∧ P (.ow (.obj cWeb [("node_marks", mD (srtM m)), ("edge_ends", eD (srtE e))]))
def U_law_web_0 (cWeb : Addr) : DS := (uRet (uX (uMake cWeb (F_Web___init__ cWeb) (uCons (uB fDict (uBin fAt (uVar 0) (uC (.int 0)))) (uCons (uB fDict (uBin fAt (uVar 0) (uC (.int 1)))) uNil)))))
theorem ok__law_web {cWeb : Addr} {mc : Value} (B : Bt mg) (W : WebC K mg cWeb mc) (K_Web___init__ : KnownI P w K mg base "Web" cWeb 3 ["self", "marks", "edges"] (spI K cWeb (F_Web___init__ cWeb))) (Hr : Here K mg "_law_web" s__law_web ["_law_raw_here"]) : Known P w K mg base "_law_web" 5 ["_law_raw_here"] (spN K (F__law_web cWeb)) := by
  obtain ⟨f, fd, F, hm, hbi⟩ := Hr.ex
  refine fn_data (u := (U_law_web_0 cWeb)) F hm hbi sc__law_web ?len (fun cdv A outer s H E hr => (dss_one
    (ds_ret (PD.x (d_make K_Web___init__ (hr.mono (by omega)) (da_cons (d_dict1 B.dict_ (d_at (hu_of hr) (d_var 0) d_int)) (da_cons (d_dict1 B.dict_ (d_at (hu_of hr) (d_var 0) d_int)) da_nil))))))) ?hu
  case len => rintro ds P ⟨m, e, rfl, _⟩; rfl
  case hu =>
    rintro ds P ⟨m, e, rfl, h, k⟩
    unfold U_law_web_0 rawD mD eD
    walk_at "dm"
    show _
    refine ⟨m, e, rfl, h, k⟩
-- §SPLIT
def F_Web_other_end (cWeb : Addr) : FS := fun ds P => ∃ m e z n p, ds = [webD cWeb m e, .str z, .int n] ∧ aget e z = some p ∧ P (.sh (.int (oth n p)))
def U_Web_other_end_1 (cWeb : Addr) : DS := (uRet (uX (uIfE (uTest (uBin fEq (uVar 2) (uVar 3))) (uVar 4) (uVar 3))))
def U_Web_other_end_0 (cWeb : Addr) : DS := uSeq (uAsg (gTp (gsCons (gNm 3) (gsCons (gNm 4) gsNil))) (uX (uBin fAt (uFld cWeb "edge_ends" (uVar 0)) (uVar 1)))) (U_Web_other_end_1 cWeb)
theorem ok_Web_other_end {cWeb : Addr} {mc : Value} (B : Bt mg) (W : WebC K mg cWeb mc)  (Hr : HereM K cWeb "other_end" "Web.other_end" s_Web_other_end ["self", "edge", "node"]) : KnownM P w K mg base cWeb "other_end" 1 ["self", "edge", "node"] (spN K (F_Web_other_end cWeb)) := by
  obtain ⟨f, fd, F, hm, hbi⟩ := Hr.ex
  refine ⟨f, fd, fn_dataM (u := (U_Web_other_end_0 cWeb)) F hbi sc_Web_other_end ?len (fun cdv A outer s H E hr => (dss_cons
    (ds_asg (PD.x (d_at (hu_of hr) (d_fld W.cl W.n_edge_ends (d_var 0)) (d_var 1))) (dg_tup (n := 2) (dgs_cons (dg_name (i := 3) sc_Web_other_end.nd) (dgs_cons (dg_name (i := 4) sc_Web_other_end.nd) dgs_nil)) (gl_cons gx_name (gl_cons gx_name gl_nil)))) (dss_one
    (ds_ret (PD.x (d_if (dt_eq hr.units (d_var 2) (d_var 3)) (d_var 4) (d_var 3))))))) ?hu, hm, W.cl, hbi⟩
  case len => rintro ds P ⟨m, e, z, n, p, rfl, _⟩; rfl
  case hu =>
    rintro ds P ⟨m, e, z, n, p, rfl, hp, k⟩
    unfold U_Web_other_end_0 webD
    walk_at "dm"
    refine ⟨_, _, rfl, rfl, at_ek hp ?_⟩
    unfold pD
    walk_at "dm"
    refine ⟨rfl, ?_⟩
    unfold U_Web_other_end_1
    walk_at "dm"
    unfold oth at k
    by_cases h : n = p.1
    · rw [if_pos h] at k
      rw [decide_eq_true h]
      exact k
    · rw [if_neg h] at k
      rw [decide_eq_false h]
      exact k
/-- what has been found: from n, all of it in reach; the neighbours of what is not in line are found -/
structure Seen (m : Mks) (e : Ens) (n : Int) (found line : List Int) (ok : Int → Int → Prop) : Prop where
  st : n ∈ found
  nd : found.Nodup
  rc : ∀ x ∈ found, x ∈ m.map (·.1) ∧ Rch e n x
  ln : ∀ x ∈ line, x ∈ found
  nb : ∀ x ∈ found, x ∉ line → ∀ y, adj e x y → y ∈ found ∨ ok x y
theorem Seen.len {m : Mks} {e : Ens} {n : Int} {found line : List Int} {ok : Int → Int → Prop} (h : Seen m e n found line ok) (W : WIn m e) : found.length ≤ 12 := by
  have := nd_len h.nd fun x hx => (h.rc x hx).1
  rw [List.length_map] at this
  exact Nat.le_trans this W.mlen
theorem Seen.done {m : Mks} {e : Ens} {n : Int} {found : List Int} (h : Seen m e n found [] fun _ _ => False) (W : WIn m e) : srtI found = compL m e n := by
  refine compL_of W h.nd fun x => ⟨h.rc x, fun ⟨_, r⟩ => ?_⟩
  refine r (fun x => x ∈ found) h.st fun a y ha j => ?_
  rcases h.nb a ha (by simp) y j with q | q
  · exact q
  · exact q.elim
def okS (e : Ens) (h : Int) (pre : List Str) (x y : Int) : Prop := x = h ∧ ∃ z p, aget e z = some p ∧ (p = (x, y) ∨ p = (y, x)) ∧ z ∉ pre
theorem Seen.pop {m : Mks} {e : Ens} {n h : Int} {found l : List Int} (T : Seen m e n found (l ++ [h]) fun _ _ => False) : Seen m e n found l (okS e h []) ∧ h ∈ found := by
  refine ⟨⟨T.st, T.nd, T.rc, fun x hx => T.ln x (List.mem_append_left _ hx), fun x hx hl y j => ?_⟩, T.ln h (by simp)⟩
  by_cases e1 : x = h
  · obtain ⟨z, p, h1, h2⟩ := j
    exact .inr ⟨e1, z, p, h1, h2, by simp⟩
  · refine (T.nb x hx (fun q => ?_) y j).imp id fun f => f.elim
    rcases List.mem_append.mp q with q | q
    · exact hl q
    · exact e1 (List.mem_singleton.mp q)
theorem okS.next {e : Ens} {h : Int} {pre : List Str} {z : Str} {p : Int × Int} {x y : Int} (hz : aget e z = some p) (k : okS e h pre x y) : y = oth h p ∨ okS e h (pre ++ [z]) x y := by
  obtain ⟨e1, z', p', h1, h2, h3⟩ := k
  by_cases e2 : z' = z
  · subst e2
    rw [hz] at h1
    cases h1
    refine .inl ?_
    rw [← e1]
    exact (oth_adj h2).2.symm
  · refine .inr ⟨e1, z', p', h1, h2, fun q => ?_⟩
    rcases List.mem_append.mp q with q | q
    · exact h3 q
    · exact e2 (List.mem_singleton.mp q)
theorem Seen.old {m : Mks} {e : Ens} {n h : Int} {found line : List Int} {pre : List Str} {z : Str} {p : Int × Int} (T : Seen m e n found line (okS e h pre)) (hz : aget e z = some p) (ho : oth h p ∈ found) : Seen m e n found line (okS e h (pre ++ [z])) :=
  ⟨T.st, T.nd, T.rc, T.ln, fun x hx hl y j => by
    rcases T.nb x hx hl y j with q | q
    · exact .inl q
    · rcases okS.next hz q with q | q
      · rw [q]; exact .inl ho
      · exact .inr q⟩
theorem Seen.new {m : Mks} {e : Ens} {n h : Int} {found line : List Int} {pre : List Str} {z : Str} {p : Int × Int} (T : Seen m e n found line (okS e h pre)) (W : WIn m e) (hh : h ∈ found) (hz : aget e z = some p) (o : onE h p = true) (ho : oth h p ∉ found) :
    Seen m e n (found ++ [oth h p]) (line ++ [oth h p]) (okS e h (pre ++ [z])) := by
  refine ⟨List.mem_append_left _ T.st, ?_, fun x hx => ?_, fun x hx => ?_, fun x hx hl y j => ?_⟩
  · refine List.nodup_append.mpr ⟨T.nd, by simp, fun a ha b hb e => ?_⟩
    rw [List.mem_singleton.mp hb] at e
    exact ho (e ▸ ha)
  · rcases List.mem_append.mp hx with hx | hx
    · exact T.rc x hx
    · rw [List.mem_singleton.mp hx]
      have j := adj_oth hz o
      exact ⟨adj_in W j, (T.rc h hh).2.step j⟩
  · rcases List.mem_append.mp hx with hx | hx
    · exact List.mem_append_left _ (T.ln x hx)
    · exact List.mem_append_right _ hx
  · have hx2 : x ∈ found := by
      rcases List.mem_append.mp hx with hx | hx
      · exact hx
      · exact absurd (List.mem_append_right _ hx) hl
    rcases T.nb x hx2 (fun q => hl (List.mem_append_left _ q)) y j with q | q
    · exact .inl (List.mem_append_left _ q)
    · rcases okS.next hz q with q | q
      · rw [q]; exact .inl (by simp)
      · exact .inr q
theorem Seen.fin {m : Mks} {e : Ens} {n h : Int} {found line : List Int} (T : Seen m e n found line (okS e h ((e.filter fun p => onE h p.2).map (·.1)))) : Seen m e n found line fun _ _ => False :=
  ⟨T.st, T.nd, T.rc, T.ln, fun x hx hl y j => by
    refine (T.nb x hx hl y j).imp id fun q => ?_
    obtain ⟨e1, z, p, h1, h2, h3⟩ := q
    refine h3 (List.mem_map.mpr ⟨(z, p), List.mem_filter.mpr ⟨aget_in h1, ?_⟩, rfl⟩)
    rw [← e1]
    exact (oth_adj h2).1⟩
theorem ints_ok {l : List Int} : ∀ x ∈ l.map D.int, DL.okE x = true := fun x hx => by
  obtain ⟨n, _, rfl⟩ := List.mem_map.mp hx
  rfl
theorem inD_ints (a : Int) : ∀ l : List Int, inD (.int a) (l.map D.int) = decide (a ∈ l)
  | [] => by simp [inD]
  | x :: l => by
    have ih := inD_ints a l
    show (decide (x = a) || inD (.int a) (l.map D.int)) = _
    rw [ih, Bool.eq_iff_iff]
    simp only [Bool.or_eq_true, decide_eq_true_eq, List.mem_cons]
    exact or_congr eq_comm Iff.rfl
theorem flat_ints (l : List Int) : (l.map D.int).all flatD = true := List.all_eq_true.mpr fun x hx => by
  obtain ⟨n, _, rfl⟩ := List.mem_map.mp hx
  rfl
theorem snoc_cases {α : Type} (l : List α) : l = [] ∨ ∃ l' x, l = l' ++ [x] := by
  rcases List.eq_nil_or_concat l with h | ⟨l', x, h⟩
  · exact .inl h
  · exact .inr ⟨l', x, by simpa using h⟩
def F__law_there : FS := fun ds P => ∃ m e z n p, ds = [rawD m e, .str z, .int n] ∧ aget e z = some p ∧ P (.sh (.int (oth n p)))
def U_law_there_1 : DS := (uRet (uX (uIfE (uTest (uBin fEq (uVar 2) (uVar 3))) (uVar 4) (uVar 3))))
def U_law_there_0 : DS := uSeq (uAsg (gTp (gsCons (gNm 3) (gsCons (gNm 4) gsNil))) (uX (uBin fAt (uBin fAt (uVar 0) (uC (.int 1))) (uVar 1)))) U_law_there_1
theorem ok__law_there (B : Bt mg)  (Hr : Here K mg "_law_there" s__law_there ["_law_raw_here", "_law_letter", "_law_point"]) : Known P w K mg base "_law_there" 1 ["_law_raw_here", "_law_letter", "_law_point"] (spN K F__law_there) := by
  obtain ⟨f, fd, F, hm, hbi⟩ := Hr.ex
  refine fn_data (u := U_law_there_0) F hm hbi sc__law_there ?len (fun cdv A outer s H E hr => (dss_cons
    (ds_asg (PD.x (d_at (hu_of hr) (d_at (hu_of hr) (d_var 0) d_int) (d_var 1))) (dg_tup (n := 2) (dgs_cons (dg_name (i := 3) sc__law_there.nd) (dgs_cons (dg_name (i := 4) sc__law_there.nd) dgs_nil)) (gl_cons gx_name (gl_cons gx_name gl_nil)))) (dss_one
    (ds_ret (PD.x (d_if (dt_eq hr.units (d_var 2) (d_var 3)) (d_var 4) (d_var 3))))))) ?hu
  case len => rintro ds P ⟨m, e, z, n, p, rfl, _⟩; rfl
  case hu =>
    rintro ds P ⟨m, e, z, n, p, rfl, hp, k⟩
    unfold U_law_there_0 rawD eD
    walk_at "dm"
    refine at_ek hp ?_
    unfold pD
    walk_at "dm"
    refine ⟨rfl, ?_⟩
    unfold U_law_there_1
    walk_at "dm"
    unfold oth at k
    by_cases h : n = p.1
    · rw [if_pos h] at k
      rw [decide_eq_true h]
      exact k
    · rw [if_neg h] at k
      rw [decide_eq_false h]
      exact k
theorem win_nil : WIn [] [] := ⟨by simp, by simp, by simp, by simp⟩
theorem srtM_nil : srtM [] = [] := List.eq_nil_of_length_eq_zero (by rw [srtM_len]; rfl)
theorem srtE_nil : srtE [] = [] := List.eq_nil_of_length_eq_zero (by rw [srtE_len]; rfl)
def F_Web_empty (cWeb : Addr) : FS := fun ds P => ds = [] ∧ P (.ow (.obj cWeb [("node_marks", mD []), ("edge_ends", eD [])]))
def U_Web_empty_0 (cWeb : Addr) : DS := (uRet (uX (uMake cWeb (F_Web___init__ cWeb) (uCons uDict0 (uCons uDict0 uNil)))))
theorem ok_Web_empty {cWeb : Addr} {mc : Value} (B : Bt mg) (W : WebC K mg cWeb mc) (K_Web___init__ : KnownI P w K mg base "Web" cWeb 3 ["self", "marks", "edges"] (spI K cWeb (F_Web___init__ cWeb))) (Hr : HereSm K cWeb mc "empty" "Web.empty" s_Web_empty []) : KnownS P w K mg base cWeb mc "empty" 5 [] (spN K (F_Web_empty cWeb)) := by
  obtain ⟨p, f, fd, F, hm, hbi⟩ := Hr.ex
  refine ⟨p, f, fd, fn_dataM (u := (U_Web_empty_0 cWeb)) F hbi sc_Web_empty ?len (fun cdv A outer s H E hr => (dss_one
    (ds_ret (PD.x (d_make K_Web___init__ (hr.mono (by omega)) (da_cons d_dict0 (da_cons d_dict0 da_nil))))))) ?hu, hm, F.kp, hbi⟩
  case len => rintro ds P ⟨rfl, _⟩; rfl
  case hu =>
    rintro ds P ⟨rfl, k⟩
    unfold U_Web_empty_0
    walk_at "dm"
    refine ⟨[], [], rfl, win_nil, ?_⟩
    rw [srtM_nil, srtE_nil]
    exact k
-- §SPLIT
theorem for_find {α : Type} {ui : DI} {ug : DG} {ub : DS} {DD : DEnds} {e : List Sl} (ys : List α) (inj : α → D) (bad : α → Bool) (V : List Sl → Prop) (hi : ∀ Q : List D → Prop, Q (ys.map inj) → ui e Q) (h0 : V e)
    (hg : ∀ y ∈ ys, bad y = false → ∀ (N : List Sl → Prop), (∀ x, V x → N x) → ∀ e', V e' → ug (inj y) e' fun e2 => ub { DD with nx := N, ct := N, bk := DD.nx } e2)
    (hb : ∀ y ∈ ys, bad y = true → ys.find? bad = some y → ∀ (N : List Sl → Prop), ∀ e', V e' → ug (inj y) e' fun e2 => ub { DD with nx := N, ct := N, bk := DD.nx } e2)
    (hd : ys.find? bad = none → ∀ e', V e' → DD.nx e') : uFor ui ug ub DD e := by
  refine for_pre ys inj (fun pre x => (∀ y ∈ pre, bad y = false) ∧ V x) hi ⟨by simp, h0⟩ ?_ ?_
  · rintro pre y post hp e' ⟨hpre, hV⟩
    have hm : y ∈ ys := by rw [hp]; simp
    cases hy : bad y with
    | false =>
      refine hg y hm hy _ (fun x hx => ⟨fun z hz => ?_, hx⟩) e' hV
      rcases List.mem_append.mp hz with hz | hz
      · exact hpre z hz
      · rw [List.mem_singleton.mp hz]; exact hy
    | true =>
      refine hb y hm hy ?_ _ e' hV
      rw [hp, List.find?_append, List.find?_eq_none.mpr fun z hz => by rw [hpre z hz]; decide, List.find?_cons, hy]
      rfl
  · rintro e' ⟨hpre, hV⟩
    exact hd (List.find?_eq_none.mpr fun z hz => by rw [hpre z hz]; decide) e' hV
/-! webs by number -/
def comP (n : Nat) : List (Int × Int) := (List.range n).flatMap fun i : Nat => (List.range (n - (i + 1))).map fun j : Nat => ((i : Int), (i : Int) + 1 + (j : Int))
def numM (n : Nat) (pts : List Int) : Mks := (List.range n).map fun i : Nat => ((i : Int), if (i : Int) ∈ pts then 1 else 0)
def nmE (ps : List (Int × Int)) : Ens := ps.zipIdx.map fun q => (S [97 + q.2], q.1)
theorem fm_len {α β : Type} {f : α → List β} {k : Nat} (h : ∀ x, (f x).length ≤ k) : ∀ l : List α, (l.flatMap f).length ≤ l.length * k
  | [] => Nat.zero_le _
  | x :: l => by
    rw [List.flatMap_cons, List.length_append, List.length_cons, Nat.add_mul]
    have := h x
    have := fm_len h l
    omega
def badP (n : Nat) (p : Int) : Bool := !(decide (0 ≤ p) && decide (p < (n : Int)))
def isLT (L : D) (pts : List Int) : Prop := L = .lst (pts.map D.int) ∨ L = .tup (pts.map D.int)
def xInv (e : Addr) (n : Int) : XD := (e, [("code", .str "invalidnode"), ("node", .int n)])
def xLim (e : Addr) (n : Int) : XD := (e, [("code", .str "limitexceeded"), ("limit", .int n)])
theorem in_LT {L : D} {pts : List Int} {a : Int} {P : R → Prop} (h : isLT L pts) (p : P (.sh (.bl (decide (a ∈ pts))))) : fInU false (.int a) L P := by
  rcases h with rfl | rfl
  · refine ⟨rfl, flat_ints _, ?_⟩
    rw [inD_ints]; exact p
  · refine ⟨rfl, flat_ints _, ?_⟩
    rw [inD_ints]; exact p
theorem it_LT {L : D} {pts : List Int} {i : Nat} {e : List Sl} {Q : List D → Prop} (h : isLT L pts) (he : nth e i = .sh L) (q : Q (pts.map D.int)) : uItQ (uVar i) e Q := by
  show slV i _ (nth e i)
  rw [he]
  rcases h with rfl | rfl <;> exact q
def F_marks_of (e_UnknownNode e_UnknownEdge e_InvalidNode e_LimitExceeded : Addr) : FSX := fun ds P XP => ∃ (n : Nat) (L : D) (pts : List Int), ds = [.int (n : Int), L] ∧ isLT L pts ∧ n ≤ 12 ∧ (pts.find? (badP n) = none → P (.ow (.dk (dkv Sum.inl D.int (numM n pts))))) ∧ ∀ p, pts.find? (badP n) = some p → XP (xInv e_InvalidNode p)
def U_marks_of_0_b_0_t_0 (e_UnknownNode : Addr) (e_UnknownEdge : Addr) (e_InvalidNode : Addr) (e_LimitExceeded : Addr) (xp : XD → Prop) : DS := (uRaise xp e_InvalidNode (fE2 "node" "code" "invalidnode") (uCons (uVar 2) uNil))
def U_marks_of_0_b_0 (e_UnknownNode : Addr) (e_UnknownEdge : Addr) (e_InvalidNode : Addr) (e_LimitExceeded : Addr) (xp : XD → Prop) : DS := (uIf (uNot (uTest (uChn fLeI fLt (uC (.int 0)) (uVar 2) (uVar 0)))) (U_marks_of_0_b_0_t_0 e_UnknownNode e_UnknownEdge e_InvalidNode e_LimitExceeded xp) uNext)
def U_marks_of_1 (e_UnknownNode : Addr) (e_UnknownEdge : Addr) (e_InvalidNode : Addr) (e_LimitExceeded : Addr) (xp : XD → Prop) : DS := (uRet (uX (uDc (uR1 (uCons (uVar 0) uNil)) (gNm 2) uYes (uVar 2) (uB fInt (uBin (fInU false) (uVar 2) (uVar 1))) [2])))
def U_marks_of_0 (e_UnknownNode : Addr) (e_UnknownEdge : Addr) (e_InvalidNode : Addr) (e_LimitExceeded : Addr) (xp : XD → Prop) : DS := uSeq (uFor (uItQ (uVar 1)) (gNm 2) (U_marks_of_0_b_0 e_UnknownNode e_UnknownEdge e_InvalidNode e_LimitExceeded xp)) (U_marks_of_1 e_UnknownNode e_UnknownEdge e_InvalidNode e_LimitExceeded xp)
theorem ok_marks_of (B : Bt mg) {e_UnknownNode e_UnknownEdge e_InvalidNode e_LimitExceeded : Addr} (E_InvalidNode : KnownE P w K mg base "InvalidNode" e_InvalidNode 1 ["self", "node"] (fE2 "node" "code" "invalidnode"))  (Hr : Here K mg "marks_of" s_marks_of ["count", "odd"]) : KnownX P w K mg base "marks_of" 3 ["count", "odd"] (spX K (F_marks_of e_UnknownNode e_UnknownEdge e_InvalidNode e_LimitExceeded)) := by
  obtain ⟨f, fd, F, hm, hbi⟩ := Hr.ex
  refine ⟨f, fd, fnOk_X (u := fun xp => (U_marks_of_0 e_UnknownNode e_UnknownEdge e_InvalidNode e_LimitExceeded xp)) F sc_marks_of ?len (fun xp cdv A outer s H E hr tk hp => (dss_cons
    (ds_for (hp := hp) (di_any (d_var 1)) (dg_name (i := 2) sc_marks_of.nd) (dss_one
    (ds_if (dt_not (dt_leLt d_int (d_var 2) (d_var 0))) (dss_one
    (ds_raise tk E_InvalidNode (hr.mono (by omega)) (da_cons (d_var 2) da_nil))) dss_nil))) (dss_one
    (ds_ret (PD.x (d_dc (own := [("node", 2)]) sc_marks_of.nd (blkD (N := ["count", "odd", "node"]) (sc := defScope s_marks_of) (by decide +kernel)) (by decide) (di_range1 B.range_ (da_cons (d_var 0) da_nil)) (fun _ _ _ _ _ => (dg_name (i := 2) sc_marks_of.nd)) (fun _ _ _ _ _ => dts_nil) (fun _ _ _ _ _ => (d_var 2)) (fun _ _ _ _ _ => (d_intc B.int_ (d_inU (hu_of hr) (d_var 2) (d_var 1)))))))))) ?hu, hm, F.kp, hbi⟩
  case len => rintro ds P XP ⟨n, L, pts, rfl, _⟩; rfl
  case hu =>
    rintro ds P XP ⟨n, L, pts, rfl, hL, hn, k, kx⟩
    unfold U_marks_of_0
    walk_at "dm"
    refine for_find pts D.int (badP n) (fun x => ∃ v, x = [.sh (.int (n : Int)), .sh L, v]) (fun Q q => it_LT hL rfl q) ⟨_, rfl⟩ ?_ ?_ ?_
    · rintro p hp hbad N hN x ⟨v, rfl⟩
      unfold U_marks_of_0_b_0
      walk_at "dm"
      unfold badP at hbad
      by_cases h0 : 0 ≤ p
      · by_cases h1 : p < (n : Int)
        · rw [decide_eq_true h0, decide_eq_true h1]
          exact hN _ ⟨_, rfl⟩
        · rw [decide_eq_true h0, decide_eq_false h1] at hbad; cases hbad
      · rw [decide_eq_false h0] at hbad; cases hbad
    · rintro p hp hbad hf N x ⟨v, rfl⟩
      unfold U_marks_of_0_b_0 U_marks_of_0_b_0_t_0
      walk_at "dm"
      have kk : XP (e_InvalidNode, [("code", .str "invalidnode"), ("node", .int p)]) := kx p hf
      unfold badP at hbad
      by_cases h0 : 0 ≤ p
      · by_cases h1 : p < (n : Int)
        · rw [decide_eq_true h0, decide_eq_true h1] at hbad; cases hbad
        · rw [decide_eq_true h0, decide_eq_false h1]
          exact ⟨by decide, _, rfl, kk⟩
      · rw [decide_eq_false h0]
        exact ⟨by decide, _, rfl, kk⟩
    rintro f1 x ⟨v, rfl⟩
    unfold U_marks_of_1
    walk_at "dm"
    refine dc_map (List.range n) (fun i : Nat => D.int (i : Int)) (fun _ => true) (fun i : Nat => .inl (i : Int)) (fun i : Nat => .int (if (i : Int) ∈ pts then 1 else 0)) (fun Q q => ⟨n, rfl, by omega, by omega, by rw [Int.toNat_natCast, nums_range]; exact q⟩) (by rw [List.length_range]; omega) ?_ ?_ ?_
    · rw [filt_all, List.nodup_iff_pairwise_ne, List.pairwise_map]
      exact (List.nodup_iff_pairwise_ne.mp List.nodup_range).imp fun ne e => ne (by injection e with e; omega)
    · intro i hi S T hS _
      walk_at "dm"
      refine ⟨_, rfl, ?_⟩
      refine in_LT hL ?_
      have hS := hS rfl
      show S (Sum.inl (i : Int)) (D.int (if decide ((i : Int) ∈ pts) = true then 1 else 0))
      simp only [decide_eq_true_eq]
      exact hS
    walk_at "dm"
    rw [filt_all]
    have k := k f1
    unfold numM dkv at k
    rw [List.map_map] at k
    exact k
theorem abc_at : ∀ i, i < 24 → ([97, 98, 99, 100, 101, 102, 103, 104, 105, 106, 107, 108, 109, 110, 111, 112, 113, 114, 115, 116, 117, 118, 119, 120] : List Nat)[i]? = some (97 + i) := by decide
theorem ix_S {l : List Nat} {n c : Nat} {P : R → Prop} (h : l[n]? = some c) (hl : l.length ≤ 1000000) (p : P (.sh (.str (S [c])))) : fIx (.str (S l)) (.int (n : Int)) P := by
  show (S l).length ≤ 1000000 ∧ orF (fun c => P (.sh (.str (sign c)))) l[n]?
  rw [h]
  exact ⟨by rw [S_len]; exact hl, p⟩
theorem nmE_nd (ps : List (Int × Int)) : ((nmE ps).map (·.1)).Nodup := by
  unfold nmE
  rw [List.map_map, show ps.zipIdx.map ((·.1) ∘ fun q => (S [97 + q.2], q.1)) = (ps.zipIdx.map (·.2)).map (fun i => S [97 + i]) by rw [List.map_map]; rfl]
  rw [List.zipIdx_map_snd, List.nodup_iff_pairwise_ne, List.pairwise_map]
  exact (List.nodup_iff_pairwise_ne.mp List.nodup_range').imp fun ne e => ne (by
    have := S_inj.mp e
    simp at this
    exact this)
def F_named_pairs : FS := fun ds P => ∃ ps : List (Int × Int), ds = [.lst (ps.map pD)] ∧ ps.length ≤ 24 ∧ P (.ow (.dk (dkv Sum.inr pD (nmE ps))))
def U_named_pairs_0 : DS := (uRet (uX (uDc (uEnum (uVar 0)) (gTp (gsCons (gNm 1) (gsCons (gNm 2) gsNil))) uYes (uBin fAt (uC (.str "abcdefghijklmnopqrstuvwx")) (uVar 1)) (uVar 2) [1, 2])))
theorem ok_named_pairs (B : Bt mg)  (Hr : Here K mg "named_pairs" s_named_pairs ["pairs"]) : Known P w K mg base "named_pairs" 1 ["pairs"] (spN K F_named_pairs) := by
  obtain ⟨f, fd, F, hm, hbi⟩ := Hr.ex
  refine fn_data (u := U_named_pairs_0) F hm hbi sc_named_pairs ?len (fun cdv A outer s H E hr => (dss_one
    (ds_ret (PD.x (d_dc (own := [("at", 1), ("pair", 2)]) sc_named_pairs.nd (blkD (N := ["pairs", "at", "pair"]) (sc := defScope s_named_pairs) (by decide +kernel)) (by decide) (di_enum B.enumerate_ (d_var 0)) (fun _ _ _ _ _ => (dg_tup (n := 2) (dgs_cons (dg_name (i := 1) sc_named_pairs.nd) (dgs_cons (dg_name (i := 2) sc_named_pairs.nd) dgs_nil)) (gl_cons gx_name (gl_cons gx_name gl_nil)))) (fun _ _ _ _ _ => dts_nil) (fun _ _ _ _ _ => (d_at (hu_of hr) (d_globE (d := .str "abcdefghijklmnopqrstuvwx") B.g_NAMES fun _ => rfl) (d_var 1))) (fun _ _ _ _ _ => (d_var 2))))))) ?hu
  case len => rintro ds P ⟨n, rfl, _⟩; rfl
  case hu =>
    rintro ds P ⟨ps, rfl, hl, k⟩
    unfold U_named_pairs_0
    walk_at "dm"
    refine dc_map ps.zipIdx (fun q => D.tup [.int (q.2 : Nat), pD q.1]) (fun _ => true) (fun q => .inr (S [97 + q.2])) (fun q => pD q.1) (fun Q q => ?_) (by rw [List.length_zipIdx]; omega) ?_ ?_ ?_
    · walk_at "dm"
      rw [enums_map pD]
      exact q
    · have h := nodup_map_inr (nmE_nd ps)
      unfold nmE at h
      rw [List.map_map, List.map_map] at h
      rw [filt_all]
      exact h
    · intro q hq S T hS _
      have hq := (List.mem_zipIdx' hq).1
      walk_at "dm"
      exact ⟨rfl, ix_S (abc_at q.2 (by omega)) (by decide) ⟨_, rfl, hS rfl⟩⟩
    walk_at "dm"
    rw [filt_all]
    unfold nmE dkv at k
    rw [List.map_map] at k
    exact k
theorem numM_nd (n : Nat) (pts : List Int) : ((numM n pts).map (·.1)).Nodup := by
  unfold numM
  rw [List.map_map, List.nodup_iff_pairwise_ne, List.pairwise_map]
  exact (List.nodup_iff_pairwise_ne.mp List.nodup_range).imp fun ne e => ne (by
    have e : ((_ : Nat) : Int) = ((_ : Nat) : Int) := e
    omega)
theorem win_num {n : Nat} {pts : List Int} {ps : List (Int × Int)} (hn : n ≤ 12) (hl : ps.length ≤ 24) (h : ∀ p ∈ ps, p.1 ≠ p.2 ∧ (∃ i : Nat, i < n ∧ p.1 = (i : Int)) ∧ ∃ i : Nat, i < n ∧ p.2 = (i : Int)) : WIn (numM n pts) (nmE ps) := by
  have hk : ∀ i : Nat, i < n → (i : Int) ∈ (numM n pts).map (·.1) := fun i hi => by
    unfold numM
    rw [List.map_map]
    exact List.mem_map.mpr ⟨i, List.mem_range.mpr hi, rfl⟩
  refine ⟨numM_nd n pts, ?_, nmE_nd ps, ?_⟩
  · intro p hp
    obtain ⟨i, hi, rfl⟩ := List.mem_map.mp hp
    have hi := List.mem_range.mp hi
    refine ⟨by show (0 : Int) ≤ (i : Int); omega, by show (i : Int) < 12; omega, ?_⟩
    show (if (i : Int) ∈ pts then (1 : Int) else 0) = 0 ∨ (if (i : Int) ∈ pts then (1 : Int) else 0) = 1
    split
    · exact .inr rfl
    · exact .inl rfl
  · intro p hp
    obtain ⟨q, hq, rfl⟩ := List.mem_map.mp hp
    have h1 := (List.mem_zipIdx' hq).1
    obtain ⟨h2, ⟨i, hi, e1⟩, ⟨j, hj, e2⟩⟩ := h q.1 (by have := List.mem_zipIdx' hq; rw [this.2]; exact List.getElem_mem _)
    refine ⟨⟨97 + q.2, rfl, by omega, by omega⟩, h2, ?_, ?_⟩
    · show q.1.1 ∈ _
      rw [e1]; exact hk i hi
    · show q.1.2 ∈ _
      rw [e2]; exact hk j hj
theorem comP_len : ∀ n ∈ List.range 8, (comP n).length ≤ 24 := by decide +kernel
theorem win_com {n : Nat} {pts : List Int} (hn : n ≤ 7) : WIn (numM n pts) (nmE (comP n)) := by
  refine win_num (by omega) (comP_len n (List.mem_range.mpr (by omega))) fun p hp => ?_
  obtain ⟨i, hi, hp⟩ := List.mem_flatMap.mp hp
  obtain ⟨j, hj, rfl⟩ := List.mem_map.mp hp
  have hi := List.mem_range.mp hi
  have hj := List.mem_range.mp hj
  refine ⟨by show (i : Int) ≠ (i : Int) + 1 + (j : Int); omega, ⟨i, hi, rfl⟩, i + 1 + j, by omega, by show (i : Int) + 1 + (j : Int) = _; omega⟩
def webO (C : Addr) (m : Mks) (e : Ens) : OD := .obj C [("node_marks", mD m), ("edge_ends", eD e)]
def F_Web_complete (e_UnknownNode e_UnknownEdge e_InvalidNode e_LimitExceeded cWeb : Addr) : FSX := fun ds P XP => ∃ (n : Nat) (L : D) (pts : List Int), ds = [.fn cWeb, .int (n : Int), L] ∧ isLT L pts ∧ n ≤ 1000 ∧ (n ≤ 7 → pts.find? (badP n) = none → P (.ow (webO cWeb (srtM (numM n pts)) (srtE (nmE (comP n)))))) ∧ (n ≤ 7 → ∀ p, pts.find? (badP n) = some p → XP (xInv e_InvalidNode p)) ∧ (7 < n → XP (xLim e_LimitExceeded 7))
def U_Web_complete_0_t_0 (e_UnknownNode : Addr) (e_UnknownEdge : Addr) (e_InvalidNode : Addr) (e_LimitExceeded : Addr) (xp : XD → Prop) (cWeb : Addr) : DS := (uRaise xp e_LimitExceeded (fE2 "limit" "code" "limitexceeded") (uCons (uC (.int 7)) uNil))
def U_Web_complete_2 (e_UnknownNode : Addr) (e_UnknownEdge : Addr) (e_InvalidNode : Addr) (e_LimitExceeded : Addr) (xp : XD → Prop) (cWeb : Addr) : DS := (uRet (uX (uMakeV cWeb (F_Web___init__ cWeb) (uVar 0) (uCons (uCallX (F_marks_of e_UnknownNode e_UnknownEdge e_InvalidNode e_LimitExceeded) xp (uCons (uVar 1) (uCons (uVar 2) uNil))) (uCons (uCall F_named_pairs (uCons (uVar 3) uNil)) uNil)))))
def U_Web_complete_1 (e_UnknownNode : Addr) (e_UnknownEdge : Addr) (e_InvalidNode : Addr) (e_LimitExceeded : Addr) (xp : XD → Prop) (cWeb : Addr) : DS := uSeq (uSet 3 (uX (uLc2 (uR1 (uCons (uVar 1) uNil)) (gNm 4) uYes (uR2 (uCons (uBin fAdd (uVar 4) (uC (.int 1))) (uCons (uVar 1) uNil))) (gNm 5) uYes (uTup (uCons (uVar 4) (uCons (uVar 5) uNil))) [4, 5] [5]))) (U_Web_complete_2 e_UnknownNode e_UnknownEdge e_InvalidNode e_LimitExceeded xp cWeb)
def U_Web_complete_0 (e_UnknownNode : Addr) (e_UnknownEdge : Addr) (e_InvalidNode : Addr) (e_LimitExceeded : Addr) (xp : XD → Prop) (cWeb : Addr) : DS := uSeq (uIf (uTest (uBin fGt (uVar 1) (uC (.int 7)))) (U_Web_complete_0_t_0 e_UnknownNode e_UnknownEdge e_InvalidNode e_LimitExceeded xp cWeb) uNext) (U_Web_complete_1 e_UnknownNode e_UnknownEdge e_InvalidNode e_LimitExceeded xp cWeb)
theorem ok_Web_complete {cWeb : Addr} {mc : Value} (B : Bt mg) {e_UnknownNode e_UnknownEdge e_InvalidNode e_LimitExceeded : Addr} (E_LimitExceeded : KnownE P w K mg base "LimitExceeded" e_LimitExceeded 1 ["self", "limit"] (fE2 "limit" "code" "limitexceeded")) (W : WebC K mg cWeb mc) (K_Web___init__ : KnownI P w K mg base "Web" cWeb 3 ["self", "marks", "edges"] (spI K cWeb (F_Web___init__ cWeb))) (K_marks_of : KnownX P w K mg base "marks_of" 3 ["count", "odd"] (spX K (F_marks_of e_UnknownNode e_UnknownEdge e_InvalidNode e_LimitExceeded))) (K_named_pairs : Known P w K mg base "named_pairs" 1 ["pairs"] (spN K F_named_pairs)) (Hr : HereCXD K cWeb mc "complete" "Web.complete" s_Web_complete ["cls", "count", "odd"] [.tup []] []) : KnownCXD P w K mg base cWeb mc "complete" 5 ["cls", "count", "odd"] [.tup []] [] (spX K (F_Web_complete e_UnknownNode e_UnknownEdge e_InvalidNode e_LimitExceeded cWeb)) := by
  obtain ⟨p, f, fd, kws, ds, F, hs, hv, hb, hrep, hbi⟩ := Hr.ex
  refine ⟨p, f, fd, ds, kws.map (·.2), fnOk_XD (u := fun xp => (U_Web_complete_0 e_UnknownNode e_UnknownEdge e_InvalidNode e_LimitExceeded xp cWeb)) F sc_Web_complete ?len (fun xp cdv A outer s H E hr tk hp => (dss_cons
    (ds_if (dt_gt (d_var 1) (d_globE (d := .int 7) B.g_MAX_COMPLETE fun _ => rfl)) (dss_one
    (ds_raise tk E_LimitExceeded (hr.mono (by omega)) (da_cons (d_globE (d := .int 7) B.g_MAX_COMPLETE fun _ => rfl) da_nil))) dss_nil) (dss_cons
    (ds_setLc2 (i := 3) (own := [("one", 4), ("other", 5)]) (vs1 := [5]) sc_Web_complete.nd (blkD (N := ["cls", "count", "odd", "pairs", "one", "other"]) (sc := defScope s_Web_complete) (by decide +kernel)) (by decide) (by decide) (by decide) (di_range1 B.range_ (da_cons (d_var 1) da_nil)) (fun _ _ _ _ _ => (dg_name (i := 4) sc_Web_complete.nd)) (fun _ _ _ _ _ => dts_nil) (fun _ _ _ _ _ => (di_range2 B.range_ (da_cons (d_add (d_var 4) d_int) (da_cons (d_var 1) da_nil)))) (fun _ _ _ _ _ => (dg_name (i := 5) sc_Web_complete.nd)) (fun _ _ _ _ _ => dts_nil) (fun _ _ _ _ _ => (d_tup (da_cons (d_var 4) (da_cons (d_var 5) da_nil)))) (sw_true rfl rfl rfl (by decide +kernel))) (dss_one
    (ds_ret (PD.x (d_makeV K_Web___init__ (hr.mono (by omega)) (d_var 0) (da_cons (d_callX tk K_marks_of (hr.mono (by omega)) (da_cons (d_var 1) (da_cons (d_var 2) da_nil))) (da_cons (d_call K_named_pairs (hr.mono (by omega)) (da_cons (d_var 3) da_nil)) da_nil))))))))) ?hu, hs, hb, hv, hrep, hbi⟩
  case len => rintro ds P XP ⟨a, L, pts, rfl, _⟩; rfl
  case hu =>
    rintro ds P XP ⟨n, L, pts, rfl, hL, hn, k, kx, kl⟩
    unfold U_Web_complete_0
    walk_at "dm"
    by_cases h7 : 7 < n
    · rw [decide_eq_true (show ((7 : Int) < (n : Int)) by omega)]
      unfold U_Web_complete_0_t_0
      walk_at "dm"
      exact ⟨by decide, _, rfl, kl h7⟩
    rw [decide_eq_false (show ¬ ((7 : Int) < (n : Int)) by omega), if_neg (by decide)]
    unfold U_Web_complete_1
    walk_at "dm"
    refine lc2_pre (List.range n) (fun i : Nat => D.int (i : Int)) (fun i => ((List.range (n - (i + 1))).map fun j : Nat => ((i : Int), (i : Int) + 1 + (j : Int))).map pD) (fun Q q => ⟨n, rfl, by omega, by omega, by rw [Int.toNat_natCast, nums_range]; exact q⟩) ?_ ?_
    · rintro pre i post hp T hT
      have hpl := congrArg List.length hp
      rw [List.length_range, List.length_append, List.length_cons] at hpl
      have hi : i < n := List.mem_range.mp (by rw [hp]; simp)
      walk_at "dm"
      refine inn_pure (List.range (n - (i + 1))) (fun j : Nat => D.int ((i : Int) + 1 + (j : Int))) (fun _ => true) (fun j => pD ((i : Int), (i : Int) + 1 + (j : Int))) (fun Q q => ⟨_, _, rfl, by omega, ?_⟩) ?_ ?_ ?_
      · rw [show ((n : Int) - ((i : Int) + 1)).toNat = n - (i + 1) by omega]
        exact q
      · have := fm_len (k := 12) (f := fun i : Nat => ((List.range (n - (i + 1))).map fun j : Nat => ((i : Int), (i : Int) + 1 + (j : Int))).map pD) (fun i => by rw [List.length_map, List.length_map, List.length_range]; omega) pre
        rw [List.length_range]
        omega
      · intro j hj S U hS _
        walk_at "dm"
        exact ⟨by decide, hS rfl⟩
      · rw [filt_all]
        rw [List.map_map] at hT
        exact hT
    walk_at "dm"
    rw [show ((List.range n).flatMap fun i : Nat => ((List.range (n - (i + 1))).map fun j : Nat => ((i : Int), (i : Int) + 1 + (j : Int))).map pD) = (comP n).map pD by unfold comP; rw [List.map_flatMap]]
    unfold U_Web_complete_2
    walk_at "dm"
    refine ⟨rfl, n, L, pts, rfl, hL, by omega, fun hf => ?_, fun p hf => kx (by omega) p hf⟩
    walk_at "dm"
    refine ⟨_, rfl, comP_len n (List.mem_range.mpr (by omega)), ?_⟩
    walk_at "dm"
    exact ⟨_, _, rfl, win_com (by omega), k (by omega) hf⟩
-- §SPLIT
/-! a node taken out -/
def remE (g : Int) (e : Ens) : Ens := e.filter fun p => !onE g p.2
theorem remE_nd {g : Int} {e : Ens} (h : (e.map (·.1)).Nodup) : ((remE g e).map (·.1)).Nodup := (List.filter_sublist.map _).nodup h
theorem win_rem {m : Mks} {e : Ens} (h : WIn m e) (g : Int) : WIn m (remE g e) := ⟨h.mn, h.mr, remE_nd h.en, fun p hp => h.er p (List.mem_filter.mp hp).1⟩
theorem aget_rem {e : Ens} (h : (e.map (·.1)).Nodup) {g : Int} {z : Str} {p : Int × Int} : aget (remE g e) z = some p ↔ aget e z = some p ∧ onE g p = false := by
  constructor
  · intro q
    obtain ⟨h1, h2⟩ := List.mem_filter.mp (aget_in q)
    exact ⟨aget_of h h1, by simpa using h2⟩
  · rintro ⟨h1, h2⟩
    exact aget_of (remE_nd h) (List.mem_filter.mpr ⟨aget_in h1, by show (!onE g p) = true; rw [h2]; rfl⟩)
theorem rem_ne {e : Ens} (h : (e.map (·.1)).Nodup) {g a x : Int} (ha : a ≠ g) (r : Rch (remE g e) a x) : x ≠ g := r (fun x => x ≠ g) ha fun u v _ j => by
  obtain ⟨z, p, h1, h2⟩ := j
  have h3 := ((aget_rem h).mp h1).2
  intro z
  subst z
  rw [onE_iff.mpr (by rcases h2 with rfl | rfl <;> simp)] at h3
  cases h3
def stN (g : Int) (p : Int × Int) : Int := if p.1 = g then p.2 else p.1
theorem stN_ne {g : Int} {p : Int × Int} (h : p.1 ≠ p.2) : stN g p ≠ g := by
  unfold stN
  split
  · rename_i q; rw [← q]; exact fun z => h z.symm
  · assumption
theorem stN_or (g : Int) (p : Int × Int) : stN g p = p.1 ∨ stN g p = p.2 := by unfold stN; split <;> simp
noncomputable def minC (m : Mks) (e : Ens) (g n : Int) : Int := (compL m (remE g e) n).headD 0
noncomputable def keyL (m : Mks) (e : Ens) (p : Int × Int) : List Int := m.map fun q => minC m e q.1 (stN q.1 p)
theorem minC_in {m : Mks} {e : Ens} {g n : Int} (hn : n ∈ m.map (·.1)) : minC m e g n ∈ compL m (remE g e) n := by
  unfold minC
  cases q : compL m (remE g e) n with
  | nil => exact absurd q (compL_ne hn)
  | cons a l => simp
theorem minC_le {m : Mks} {e : Ens} (W : WIn m e) {g n x : Int} (hx : x ∈ compL m (remE g e) n) : minC m e g n ≤ x := by
  unfold minC
  have pw := compL_pw (win_rem W g) n
  cases q : compL m (remE g e) n with
  | nil => rw [q] at hx; cases hx
  | cons a l =>
    rw [q] at hx pw
    rcases List.mem_cons.mp hx with rfl | hx
    · exact Int.le_refl _
    · exact Int.le_of_lt ((List.pairwise_cons.mp pw).1 x hx)
theorem minC_eq {m : Mks} {e : Ens} (W : WIn m e) {g a b : Int} (ha : a ∈ m.map (·.1)) (hb : b ∈ m.map (·.1)) : minC m e g a = minC m e g b ↔ compL m (remE g e) a = compL m (remE g e) b := by
  constructor
  · intro h
    have h1 := compL_same (win_rem W g) (minC_in (m := m) (e := e) (g := g) ha)
    have h2 := compL_same (win_rem W g) (minC_in (m := m) (e := e) (g := g) hb)
    rw [h] at h1
    rw [← h1, h2]
  · intro h
    unfold minC
    rw [h]
theorem Seen.skip {m : Mks} {e : Ens} {n h : Int} {found line : List Int} {pre : List Str} {z : Str} (T : Seen m e n found line (okS e h pre)) (hz : aget e z = none) : Seen m e n found line (okS e h (pre ++ [z])) :=
  ⟨T.st, T.nd, T.rc, T.ln, fun x hx hl y j => (T.nb x hx hl y j).imp id fun ⟨e1, z', p', h1, h2, h3⟩ => ⟨e1, z', p', h1, h2, fun q => by
    rcases List.mem_append.mp q with q | q
    · exact h3 q
    · rw [List.mem_singleton.mp q, hz] at h1; cases h1⟩⟩
theorem Seen.finR {m : Mks} {e : Ens} {g n h : Int} {found line : List Int} (T : Seen m (remE g e) n found line (okS (remE g e) h ((e.filter fun p => onE h p.2).map (·.1)))) : Seen m (remE g e) n found line fun _ _ => False :=
  ⟨T.st, T.nd, T.rc, T.ln, fun x hx hl y j => by
    refine (T.nb x hx hl y j).imp id fun q => ?_
    obtain ⟨e1, z, p, h1, h2, h3⟩ := q
    refine h3 (List.mem_map.mpr ⟨(z, p), List.mem_filter.mpr ⟨(List.mem_filter.mp (aget_in h1)).1, ?_⟩, rfl⟩)
    rw [← e1]
    exact (oth_adj h2).1⟩
theorem rem_none {e : Ens} (h : (e.map (·.1)).Nodup) {g : Int} {z : Str} {p : Int × Int} (hz : aget e z = some p) (o : onE g p = true) : aget (remE g e) z = none := by
  cases q : aget (remE g e) z with
  | none => rfl
  | some p' =>
    obtain ⟨h1, h2⟩ := (aget_rem h).mp q
    rw [hz] at h1
    cases h1
    rw [o] at h2; cases h2
theorem oth_on {h g : Int} {p : Int × Int} (o : onE h p = true) (hg : h ≠ g) : onE g p = decide (oth h p = g) := by
  rw [Bool.eq_iff_iff, decide_eq_true_eq, onE_iff]
  unfold oth
  rcases onE_iff.mp o with rfl | rfl
  · rw [if_pos rfl]
    constructor
    · rintro (q | q)
      · exact absurd q.symm hg
      · exact q.symm
    · exact fun q => .inr q.symm
  · constructor
    · rintro (q | q)
      · by_cases e1 : p.2 = p.1
        · exact absurd (e1.trans q.symm) hg
        · rw [if_neg e1]; exact q.symm
      · exact absurd q.symm hg
    · intro q
      by_cases e1 : p.2 = p.1
      · rw [if_pos e1] at q; exact .inr q.symm
      · rw [if_neg e1] at q; exact .inl q.symm
theorem min_found {m : Mks} {e : Ens} (W : WIn m e) {g n x : Int} {found : List Int} (hn : n ∈ m.map (·.1)) (T : Seen m (remE g e) n found [] fun _ _ => False) (hx : x ∈ found) (hm : ∀ y, y ∈ found → x ≤ y) : x = minC m e g n := by
  have e1 := T.done (win_rem W g)
  have hi : ∀ y, y ∈ found ↔ y ∈ compL m (remE g e) n := fun y => by rw [← e1]; exact srtI_mem.symm
  have h1 := hm _ ((hi _).mpr (minC_in hn))
  have h2 := minC_le W ((hi x).mp hx)
  omega
-- §SPLIT
def F_reach_without (cWeb : Addr) : FS := fun ds P => ∃ m e n g v, ds = [webD cWeb m e, .int n, .int g] ∧ WIn m e ∧ aget m n = some v ∧ n ≠ g ∧ P (.sh (.int (minC m e g n)))
def U_reach_without_1_b_1_b_1_t_1 (e_UnknownNode : Addr) (e_UnknownEdge : Addr) (e_InvalidNode : Addr) (e_LimitExceeded : Addr) (cWeb : Addr) : DS := (uApp 4 (uX (uVar 7)))
def U_reach_without_1_b_1_b_1_t_0 (e_UnknownNode : Addr) (e_UnknownEdge : Addr) (e_InvalidNode : Addr) (e_LimitExceeded : Addr) (cWeb : Addr) : DS := uSeq (uApp 3 (uX (uVar 7))) (U_reach_without_1_b_1_b_1_t_1 e_UnknownNode e_UnknownEdge e_InvalidNode e_LimitExceeded cWeb)
def U_reach_without_1_b_1_b_1 (e_UnknownNode : Addr) (e_UnknownEdge : Addr) (e_InvalidNode : Addr) (e_LimitExceeded : Addr) (cWeb : Addr) : DS := (uIf (uAnd (uTest (uBin fNe (uVar 7) (uVar 2))) (uTest (uBin (fInU true) (uVar 7) (uVar 3)))) (U_reach_without_1_b_1_b_1_t_0 e_UnknownNode e_UnknownEdge e_InvalidNode e_LimitExceeded cWeb) uNext)
def U_reach_without_1_b_1_b_0 (e_UnknownNode : Addr) (e_UnknownEdge : Addr) (e_InvalidNode : Addr) (e_LimitExceeded : Addr) (cWeb : Addr) : DS := uSeq (uSet 7 (uX (uMeth cWeb "other_end" (F_Web_other_end cWeb) (uVar 0) (uCons (uVar 6) (uCons (uVar 5) uNil))))) (U_reach_without_1_b_1_b_1 e_UnknownNode e_UnknownEdge e_InvalidNode e_LimitExceeded cWeb)
def U_reach_without_1_b_1 (e_UnknownNode : Addr) (e_UnknownEdge : Addr) (e_InvalidNode : Addr) (e_LimitExceeded : Addr) (cWeb : Addr) : DS := (uFor (uItQ (uMethX cWeb "edges_of" (F_Web_edges_of e_UnknownNode e_UnknownEdge e_InvalidNode e_LimitExceeded cWeb) (fun _ => False) (uVar 0) (uCons (uVar 5) uNil))) (gNm 6) (U_reach_without_1_b_1_b_0 e_UnknownNode e_UnknownEdge e_InvalidNode e_LimitExceeded cWeb))
def U_reach_without_1_b_0 (e_UnknownNode : Addr) (e_UnknownEdge : Addr) (e_InvalidNode : Addr) (e_LimitExceeded : Addr) (cWeb : Addr) : DS := uSeq (uSet 5 (uPop 4)) (U_reach_without_1_b_1 e_UnknownNode e_UnknownEdge e_InvalidNode e_LimitExceeded cWeb)
def U_reach_without_2 (e_UnknownNode : Addr) (e_UnknownEdge : Addr) (e_InvalidNode : Addr) (e_LimitExceeded : Addr) (cWeb : Addr) : DS := (uRet (uX (uB fMinI (uVar 3))))
def U_reach_without_1 (e_UnknownNode : Addr) (e_UnknownEdge : Addr) (e_InvalidNode : Addr) (e_LimitExceeded : Addr) (cWeb : Addr) : DS := uSeq (uWhile (uTest (uBin fNe (uVar 4) (uLst uNil))) (U_reach_without_1_b_0 e_UnknownNode e_UnknownEdge e_InvalidNode e_LimitExceeded cWeb)) (U_reach_without_2 e_UnknownNode e_UnknownEdge e_InvalidNode e_LimitExceeded cWeb)
def U_reach_without_0 (e_UnknownNode : Addr) (e_UnknownEdge : Addr) (e_InvalidNode : Addr) (e_LimitExceeded : Addr) (cWeb : Addr) : DS := uSeq (uPar 3 4 true true (uLst (uCons (uVar 1) uNil)) (uLst (uCons (uVar 1) uNil))) (U_reach_without_1 e_UnknownNode e_UnknownEdge e_InvalidNode e_LimitExceeded cWeb)
theorem ok_reach_without {cWeb : Addr} {mc : Value} (B : Bt mg) {e_UnknownNode e_UnknownEdge e_InvalidNode e_LimitExceeded : Addr} (W : WebC K mg cWeb mc) (K_Web_edges_of : KnownMX P w K mg base cWeb "edges_of" 4 ["self", "node"] (spX K (F_Web_edges_of e_UnknownNode e_UnknownEdge e_InvalidNode e_LimitExceeded cWeb))) (K_Web_other_end : KnownM P w K mg base cWeb "other_end" 1 ["self", "edge", "node"] (spN K (F_Web_other_end cWeb))) (Hr : Here K mg "reach_without" s_reach_without ["web", "start", "gone"]) : Known P w K mg base "reach_without" 5 ["web", "start", "gone"] (spN K (F_reach_without cWeb)) := by
  obtain ⟨f, fd, F, hm, hbi⟩ := Hr.ex
  refine fn_data (u := (U_reach_without_0 e_UnknownNode e_UnknownEdge e_InvalidNode e_LimitExceeded cWeb)) F hm hbi sc_reach_without ?len (fun cdv A outer s H E hr => (dss_cons
    (ds_par (i := 3) (j := 4) true true sc_reach_without.nd (d_lst (da_cons (d_var 1) da_nil)) (d_lst (da_cons (d_var 1) da_nil))) (dss_cons
    (ds_while (dt_ne hr.units (d_var 4) (d_lst da_nil)) (dss_cons
    (ds_set (i := 5) (dx_pop (i := 4)) sc_reach_without.nd) (dss_one
    (ds_for (di_any (d_methXq K_Web_edges_of (hr.mono (by omega)) (d_var 0) (da_cons (d_var 5) da_nil))) (dg_name (i := 6) sc_reach_without.nd) (dss_cons
    (ds_set (i := 7) (PD.x (d_meth K_Web_other_end (hr.mono (by omega)) (d_var 0) (da_cons (d_var 6) (da_cons (d_var 5) da_nil)))) sc_reach_without.nd) (dss_one
    (ds_if (PDW.pt (dw_and (dt_ne hr.units (d_var 7) (d_var 2)) (dw_and1 (dt_notinU (hu_of hr) (d_var 7) (d_var 3))))) (dss_cons
    (ds_append (i := 3) (PD.x (d_var 7))) (dss_one
    (ds_append (i := 4) (PD.x (d_var 7))))) dss_nil))))))) (dss_one
    (ds_ret (PD.x (d_minI B.min_ (d_var 3)))))))) ?hu
  case len => rintro ds P ⟨m, e, n, g, v, rfl, _⟩; rfl
  case hu =>
    rintro ds P ⟨m, e, n, g, v, rfl, W0, hv, hng, k⟩
    have el := W0.elen
    have ml := W0.mlen
    have WR := win_rem W0 g
    have hn : n ∈ m.map (·.1) := aget_mem.mp (by rw [hv]; rfl)
    unfold U_reach_without_0
    walk_at "dm"
    refine ⟨by decide, by decide, ?_⟩
    show U_reach_without_1 e_UnknownNode e_UnknownEdge e_InvalidNode e_LimitExceeded _ _ [.sh (webD cWeb m e), .sh (.int n), .sh (.int g), .own none (.lst ([n].map .int)), .own none (.lst ([n].map .int)), .un, .un, .un]
    unfold U_reach_without_1
    walk_at "dm"
    refine ⟨fun c x => ∃ found line v4 v5 v6, x = [.sh (webD cWeb m e), .sh (.int n), .sh (.int g), .own none (.lst (found.map .int)), .own none (.lst (line.map .int)), v4, v5, v6] ∧ Seen m (remE g e) n found line (fun _ _ => False) ∧ c = 2 * (12 - found.length) + line.length ∧ c ≤ 100, ⟨_, [n], [n], _, _, _, rfl, ⟨by simp, by simp, fun x hx => ?_, fun x hx => hx, fun x hx hl => absurd hx hl⟩, rfl, by show 2 * (12 - 1) + 1 ≤ 100; decide⟩, ?_⟩
    · rw [List.mem_singleton.mp hx]
      exact ⟨hn, Rch.refl _ n⟩
    rintro c x ⟨found, line, v4, v5, v6, rfl, T, rfl, hc⟩
    walk_at "dm"
    refine ⟨by decide, ne_nil ints_ok ?_⟩
    rcases snoc_cases line with rfl | ⟨l, h, rfl⟩
    · walk_at "dm"
      unfold U_reach_without_2
      walk_at "dm"
      refine ⟨found, rfl, List.length_pos_iff.mpr fun z => ?_, fun x hx hm => ?_⟩
      · have := T.st
        rw [z] at this; cases this
      · rw [min_found W0 hn T hx hm]
        exact k
    · rw [show (l ++ [h]).map D.int = l.map D.int ++ [D.int h] by simp, isEmpty_snoc]
      walk_at "dm"
      unfold U_reach_without_1_b_0
      walk_at "dm"
      refine ⟨_, l.map .int, .int h, rfl, ?_⟩
      walk_at "dm"
      obtain ⟨T1, hh⟩ := T.pop
      obtain ⟨hk, hr⟩ := T.rc h hh
      have hhg : h ≠ g := rem_ne W0.en hng hr
      obtain ⟨vh, hvh⟩ := aget_key hk
      have fl := T.len WR
      generalize hB : 2 * (12 - found.length) + (l ++ [h]).length = B at hc ⊢
      have hB2 : 2 * (12 - found.length) + l.length + 1 = B := by rw [← hB]; simp; omega
      clear hB
      unfold U_reach_without_1_b_1
      walk_at "dm"
      refine for_pre ((e.filter fun p => onE h p.2).map (·.1)) D.str (fun pre x => ∃ found l v5 v6, x = [.sh (webD cWeb m e), .sh (.int n), .sh (.int g), .own none (.lst (found.map .int)), .own none (.lst (l.map .int)), .sh (.int h), v5, v6] ∧ Seen m (remE g e) n found l (okS (remE g e) h pre) ∧ h ∈ found ∧ 2 * (12 - found.length) + l.length < B) (fun Q q => ?_) ⟨found, l, _, _, rfl, T1, hh, by omega⟩ ?_ ?_
      · walk_at "dm"
        refine ⟨_, rfl, rfl, m, e, h, rfl, el, fun p hp => (W0.er p hp).1, fun v hv => ?_, fun z => by rw [hvh] at z; cases z⟩
        walk_at "dm"
        rw [signs_S]
        unfold atE
        rw [← txtE_chs]
        · exact q
        · intro z hz
          obtain ⟨p, hp, rfl⟩ := List.mem_map.mp hz
          exact (W0.er p (List.mem_filter.mp hp).1).1
      · rintro pre z post hpp x ⟨found, l, v5, v6, rfl, T2, hh, hlt⟩
        have hzm : z ∈ (e.filter fun p => onE h p.2).map (·.1) := by rw [hpp]; simp
        obtain ⟨q, hq, rfl⟩ := List.mem_map.mp hzm
        obtain ⟨hq1, hq2⟩ := List.mem_filter.mp hq
        have hz := aget_of W0.en (show (q.1, q.2) ∈ e from hq1)
        have fl2 := T2.len WR
        unfold U_reach_without_1_b_1_b_0
        walk_at "dm"
        refine ⟨_, rfl, rfl, m, e, q.1, h, q.2, rfl, hz, ?_⟩
        walk_at "dm"
        unfold U_reach_without_1_b_1_b_1
        walk_at "dm"
        have ho := oth_on hq2 hhg
        by_cases hg : oth h q.2 = g
        · rw [decide_eq_true hg] at ho ⊢
          exact ⟨found, l, _, _, rfl, T2.skip (rem_none W0.en hz ho), hh, hlt⟩
        · rw [decide_eq_false hg] at ho ⊢
          have hz := (aget_rem W0.en).mpr ⟨hz, ho⟩
          refine ⟨rfl, flat_ints found, ?_⟩
          by_cases ho : oth h q.2 ∈ found
          · have hc : inD (.int (oth h q.2)) (found.map D.int) = true := by rw [inD_ints]; exact decide_eq_true ho
            refine Eq.mpr (if_neg (by rw [hc]; decide)) ?_
            exact ⟨found, l, _, _, rfl, T2.old hz ho, hh, hlt⟩
          · have hc : inD (.int (oth h q.2)) (found.map D.int) = false := by rw [inD_ints]; exact decide_eq_false ho
            refine Eq.mpr (if_pos (by rw [hc]; rfl)) ?_
            have T3 := T2.new WR hh hz hq2 ho
            have fl3 := T3.len WR
            rw [List.length_append] at fl3
            unfold U_reach_without_1_b_1_b_1_t_0
            walk_at "dm"
            refine ⟨⟨_, _, rfl⟩, _, _, rfl, by rw [List.length_map]; omega, ?_⟩
            unfold U_reach_without_1_b_1_b_1_t_1
            walk_at "dm"
            refine ⟨⟨_, _, rfl⟩, _, _, rfl, by rw [List.length_map]; omega, ?_⟩
            refine ⟨found ++ [oth h q.2], l ++ [oth h q.2], _, _, by rw [List.map_append, List.map_append]; rfl, T3, List.mem_append_left _ hh, ?_⟩
            rw [List.length_append, List.length_append]
            show 2 * (12 - (found.length + 1)) + (l.length + 1) < B
            have : found.length + 1 ≤ 12 := fl3
            omega
      · rintro x ⟨found, l, v5, v6, rfl, T2, hh, hlt⟩
        exact ⟨_, hlt, found, l, _, _, _, rfl, T2.finR, rfl, by omega⟩
def F_block_key (cWeb : Addr) : FS := fun ds P => ∃ m e z p, ds = [webD cWeb m e, .str z] ∧ WIn m e ∧ aget e z = some p ∧ ∀ c, P (.tr (.tup c (((keyL m e p).map D.int).map .leaf)))
def U_block_key_1 (e_UnknownNode : Addr) (e_UnknownEdge : Addr) (e_InvalidNode : Addr) (e_LimitExceeded : Addr) (cWeb : Addr) : DS := (uRet (uX (uTupT (uLc (uItQ (uMeth cWeb "nodes" (F_Web_nodes cWeb) (uVar 0) uNil)) (gNm 4) uYes (uCall (F_reach_without cWeb) (uCons (uVar 0) (uCons (uIfE (uTest (uBin fEq (uVar 2) (uVar 4))) (uVar 3) (uVar 2)) (uCons (uVar 4) uNil)))) [4]))))
def U_block_key_0 (e_UnknownNode : Addr) (e_UnknownEdge : Addr) (e_InvalidNode : Addr) (e_LimitExceeded : Addr) (cWeb : Addr) : DS := uSeq (uAsg (gTp (gsCons (gNm 2) (gsCons (gNm 3) gsNil))) (uX (uMethX cWeb "ends" (F_Web_ends e_UnknownNode e_UnknownEdge e_InvalidNode e_LimitExceeded cWeb) (fun _ => False) (uVar 0) (uCons (uVar 1) uNil)))) (U_block_key_1 e_UnknownNode e_UnknownEdge e_InvalidNode e_LimitExceeded cWeb)
theorem ok_block_key {cWeb : Addr} {mc : Value} (B : Bt mg) {e_UnknownNode e_UnknownEdge e_InvalidNode e_LimitExceeded : Addr} (W : WebC K mg cWeb mc) (K_Web_ends : KnownMX P w K mg base cWeb "ends" 3 ["self", "edge"] (spX K (F_Web_ends e_UnknownNode e_UnknownEdge e_InvalidNode e_LimitExceeded cWeb))) (K_reach_without : Known P w K mg base "reach_without" 5 ["web", "start", "gone"] (spN K (F_reach_without cWeb))) (K_Web_nodes : KnownM P w K mg base cWeb "nodes" 1 ["self"] (spN K (F_Web_nodes cWeb))) (Hr : Here K mg "block_key" s_block_key ["web", "edge"]) : Known P w K mg base "block_key" 6 ["web", "edge"] (spN K (F_block_key cWeb)) := by
  obtain ⟨f, fd, F, hm, hbi⟩ := Hr.ex
  refine fn_data (u := (U_block_key_0 e_UnknownNode e_UnknownEdge e_InvalidNode e_LimitExceeded cWeb)) F hm hbi sc_block_key ?len (fun cdv A outer s H E hr => (dss_cons
    (ds_asg (PD.x (d_methXq K_Web_ends (hr.mono (by omega)) (d_var 0) (da_cons (d_var 1) da_nil))) (dg_tup (n := 2) (dgs_cons (dg_name (i := 2) sc_block_key.nd) (dgs_cons (dg_name (i := 3) sc_block_key.nd) dgs_nil)) (gl_cons gx_name (gl_cons gx_name gl_nil)))) (dss_one
    (ds_ret (PD.x (d_tupT B.tuple_ (d_lc (own := [("gone", 4)]) sc_block_key.nd (blkD (N := ["web", "edge", "one", "other", "gone"]) (sc := defScope s_block_key) (by decide +kernel)) (by decide) (di_any (d_meth0 K_Web_nodes (hr.mono (by omega)) (d_var 0))) (fun _ _ _ _ _ => (dg_name (i := 4) sc_block_key.nd)) (fun _ _ _ _ _ => dts_nil) (fun _ _ _ _ _ => (d_call K_reach_without (hr.mono (by omega)) (da_cons (d_var 0) (da_cons (d_if (dt_eq hr.units (d_var 2) (d_var 4)) (d_var 3) (d_var 2)) (da_cons (d_var 4) da_nil)))))))))))) ?hu
  case len => rintro ds P ⟨m, e, z, p, rfl, _⟩; rfl
  case hu =>
    rintro ds P ⟨m, e, z, p, rfl, W0, hz, k⟩
    have ml := W0.mlen
    obtain ⟨_, hne, h1, h2⟩ := W0.er _ (aget_in hz)
    unfold U_block_key_0
    walk_at "dm"
    refine ⟨_, rfl, rfl, m, e, z, rfl, fun q hq => ?_, fun y => by rw [hz] at y; cases y⟩
    rw [hz] at hq
    cases hq
    unfold pD
    walk_at "dm"
    refine ⟨rfl, ?_⟩
    unfold U_block_key_1
    walk_at "dm"
    refine lc_map m (fun q => D.int q.1) (fun q => .int (minC m e q.1 (stN q.1 p))) (fun Q q => ?_) (by omega) (fun q hq S' hS => ?_) ?_
    · walk_at "dm"
      exact ⟨_, rfl, rfl, m, e, rfl, q⟩
    · walk_at "dm"
      have hs : stN q.1 p ∈ m.map (·.1) := by rcases stN_or q.1 p with y | y <;> rw [y] <;> assumption
      obtain ⟨v, hv⟩ := aget_key hs
      have done : F_reach_without cWeb [webD cWeb m e, .int (stN q.1 p), .int q.1] fun r => R.keep S' r := ⟨m, e, _, q.1, v, rfl, W0, hv, stN_ne hne, hS⟩
      unfold stN at done
      by_cases y : p.1 = q.1
      · rw [if_pos y] at done
        rw [decide_eq_true y]
        exact done
      · rw [if_neg y] at done
        rw [decide_eq_false y]
        exact done
    · have e2 : (m.map fun q => D.int (minC m e q.1 (stN q.1 p))) = (keyL m e p).map D.int := by unfold keyL; rw [List.map_map]; rfl
      rw [e2]
      exact ⟨_, rfl, k⟩
-- §SPLIT
/-! groups by keys -/
theorem rev_ind {α : Type} {Q : List α → Prop} (h0 : Q []) (hs : ∀ l a, Q l → Q (l ++ [a])) : ∀ l, Q l := by
  intro l
  have : ∀ n (l : List α), l.length = n → Q l := by
    intro n
    induction n with
    | zero => intro l hl; rw [List.eq_nil_of_length_eq_zero hl]; exact h0
    | succ n ih =>
      intro l hl
      rcases snoc_cases l with rfl | ⟨l', x, rfl⟩
      · cases hl
      · exact hs l' x (ih l' (by simpa using hl))
  exact this _ l rfl
noncomputable def kE (m : Mks) (e : Ens) (p : Int × Int) : List Key := kI (keyL m e p)
def addT (kvs : List (List Key × Str)) (k : List Key) (z : Str) : List (List Key × Str) := tPut kvs k (((tGet kvs k).getD (Str.ofString "")) ++ z)
noncomputable def grpL (m : Mks) (e l : Ens) : List (List Key × Str) := l.foldl (fun kvs q => addT kvs (kE m e q.2) q.1) []
noncomputable def blkL (m : Mks) (e : Ens) : List Str := srtS ((grpL m e e).map (·.2))
theorem grpL_snoc (m : Mks) (e l : Ens) (q : Str × (Int × Int)) : grpL m e (l ++ [q]) = addT (grpL m e l) (kE m e q.2) q.1 := by
  unfold grpL
  rw [List.foldl_append]
  rfl
theorem addT_new {kvs : List (List Key × Str)} {k : List Key} {z : Str} (h : ∀ p ∈ kvs, p.1 ≠ k) : addT kvs k z = kvs ++ [(k, z)] := by
  have h1 : kvs.find? (fun p => decide (p.1 = k)) = none := List.find?_eq_none.mpr fun p hp => by simpa using h p hp
  have h2 : (kvs.any fun p => decide (p.1 = k)) = false := List.any_eq_false.mpr fun p hp => by simpa using h p hp
  unfold addT tPut tGet
  rw [h1, h2]
  simp only [Bool.false_eq_true, if_false, Option.map_none, Option.getD_none]
  rw [show (Str.ofString "" ++ z : Str) = z from by
    show (⟨#[] ++ z.cps⟩ : Str) = z
    rw [Array.empty_append]]
theorem addT_old {kvs : List (List Key × Str)} {k : List Key} {z : Str} (nd : (kvs.map (·.1)).Nodup) {j : Nat} {q : List Key × Str} (hj : kvs[j]? = some q) (hk : q.1 = k) : addT kvs k z = kvs.set j (k, q.2 ++ z) := by
  have hm := List.mem_of_getElem? hj
  have h1 : kvs.find? (fun p => decide (p.1 = k)) = some q := by
    cases hf : kvs.find? (fun p => decide (p.1 = k)) with
    | none => exact absurd (List.find?_eq_none.mp hf q hm) (by simpa using hk)
    | some q' =>
      have e1 := List.mem_of_find?_eq_some hf
      have e2 : q'.1 = k := by
        have := List.find?_some hf
        simpa using this
      obtain ⟨i, hi⟩ := List.getElem?_of_mem e1
      have : i = j := by
        obtain ⟨i1, i2⟩ := List.getElem?_eq_some_iff.mp hi
        obtain ⟨j1, j2⟩ := List.getElem?_eq_some_iff.mp hj
        refine (List.getElem_inj (h₀ := by rw [List.length_map]; exact i1) (h₁ := by rw [List.length_map]; exact j1) nd).mp ?_
        rw [List.getElem_map, List.getElem_map, i2, j2, e2, hk]
      subst this
      rw [hj] at hi
      exact hi.symm
  have h2 : (kvs.any fun p => decide (p.1 = k)) = true := List.any_eq_true.mpr ⟨q, hm, by simpa using hk⟩
  unfold addT tPut tGet
  rw [h1, if_pos h2]
  refine List.ext_getElem (by rw [List.length_map, List.length_set]) fun i i1 i2 => ?_
  rw [List.getElem_map, List.getElem_set]
  rw [List.length_map] at i1
  obtain ⟨j1, j2⟩ := List.getElem?_eq_some_iff.mp hj
  by_cases e : j = i
  · subst e
    rw [if_pos rfl, j2, if_pos hk, hk]
    rfl
  · rw [if_neg e, if_neg]
    intro z
    refine e ((List.getElem_inj (h₀ := by rw [List.length_map]; exact j1) (h₁ := by rw [List.length_map]; exact i1) nd).mp ?_)
    rw [List.getElem_map, List.getElem_map, j2, hk, z]
/-- the groups of the first edges: different keys, each with the first edge of its own -/
structure Grp (m : Mks) (e : Ens) (kvs : List (List Key × Str)) : Prop where
  nd : (kvs.map (·.1)).Nodup
  hd : ∀ q ∈ kvs, ∃ c l p, q.2 = S (c :: l) ∧ aget e (S [c]) = some p ∧ q.1 = kE m e p
theorem Grp.nil (m : Mks) (e : Ens) : Grp m e [] := ⟨by simp, by simp⟩
theorem Grp.add {m : Mks} {e : Ens} {kvs : List (List Key × Str)} (g : Grp m e kvs) {z : Str} {p : Int × Int} (hz : aget e z = some p) (hn : IsNm z) : Grp m e (addT kvs (kE m e p) z) := by
  obtain ⟨c, rfl, _⟩ := hn
  by_cases h : ∀ q ∈ kvs, q.1 ≠ kE m e p
  · rw [addT_new h]
    refine ⟨?_, fun q hq => ?_⟩
    · rw [List.map_append]
      refine List.nodup_append.mpr ⟨g.nd, by simp, fun a ha b hb e1 => ?_⟩
      obtain ⟨q, hq, rfl⟩ := List.mem_map.mp ha
      exact h q hq (e1.trans (List.mem_singleton.mp hb))
    · rcases List.mem_append.mp hq with hq | hq
      · exact g.hd q hq
      · rw [List.mem_singleton.mp hq]
        exact ⟨c, [], p, rfl, hz, rfl⟩
  · have h : ∃ q ∈ kvs, q.1 = kE m e p := by
      refine Classical.byContradiction fun z => h fun q hq y => z ⟨q, hq, y⟩
    obtain ⟨q, hq, e1⟩ := h
    obtain ⟨j, hj⟩ := List.getElem?_of_mem hq
    rw [addT_old g.nd hj e1]
    obtain ⟨c', l, p', h1, h2, h3⟩ := g.hd q hq
    refine ⟨?_, fun r hr => ?_⟩
    · have : (kvs.set j (kE m e p, q.2 ++ S [c])).map (·.1) = kvs.map (·.1) := by
        rw [List.map_set]
        refine List.ext_getElem (by rw [List.length_set]) fun i i1 i2 => ?_
        rw [List.getElem_set]
        split
        · rename_i e2
          subst e2
          obtain ⟨j1, j2⟩ := List.getElem?_eq_some_iff.mp hj
          rw [List.getElem_map, j2, e1]
        · rfl
      rw [this]; exact g.nd
    · rcases List.mem_or_eq_of_mem_set hr with hr | rfl
      · exact g.hd r hr
      · exact ⟨c', l ++ [c], p', by rw [h1]; exact (S_app _ _), h2, by rw [← h3, e1]⟩
theorem grp_all {m : Mks} {e : Ens} (W : WIn m e) : ∀ l : Ens, (∀ q ∈ l, q ∈ e) → Grp m e (grpL m e l) := by
  refine rev_ind (fun _ => Grp.nil m e) fun l q ih => ?_
  · intro h
    rw [grpL_snoc]
    have hq := h q (by simp)
    exact (ih fun x hx => h x (List.mem_append_left _ hx)).add (aget_of W.en (show (q.1, q.2) ∈ e from hq)) (W.er q hq).1
theorem addT_len (kvs : List (List Key × Str)) (k : List Key) (z : Str) : (addT kvs k z).length ≤ kvs.length + 1 := by
  unfold addT tPut
  split
  · rw [List.length_map]; omega
  · rw [List.length_append]; simp
theorem grpL_len (m : Mks) (e : Ens) : ∀ l : Ens, (grpL m e l).length ≤ l.length := by
  refine rev_ind (Nat.le_refl _) fun l q ih => ?_
  · rw [grpL_snoc, List.length_append]
    have := addT_len (grpL m e l) (kE m e q.2) q.1
    simp only [List.length_cons, List.length_nil]
    omega
/-- the texts of groups are short -/
theorem tGet_len {kvs : List (List Key × Str)} {k : List Key} {n : Nat} (h : ∀ q ∈ kvs, q.2.length ≤ n) : ((tGet kvs k).getD (Str.ofString "")).length ≤ n := by
  unfold tGet
  cases hf : kvs.find? (fun p => decide (p.1 = k)) with
  | none => exact Nat.zero_le _
  | some q => exact h q (List.mem_of_find?_eq_some hf)
theorem addT_txt {kvs : List (List Key × Str)} {k : List Key} {z : Str} {n : Nat} (h : ∀ q ∈ kvs, q.2.length ≤ n) : ∀ q ∈ addT kvs k z, q.2.length ≤ n + z.length := by
  have hl : (((tGet kvs k).getD (Str.ofString "")) ++ z).length ≤ n + z.length := by
    have := tGet_len (k := k) h
    rw [PySem.Str.length_append]
    omega
  intro q hq
  unfold addT tPut at hq
  split at hq
  · obtain ⟨q', hq', rfl⟩ := List.mem_map.mp hq
    split
    · exact hl
    · exact Nat.le_trans (h q' hq') (Nat.le_add_right _ _)
  · rcases List.mem_append.mp hq with hq | hq
    · exact Nat.le_trans (h q hq) (Nat.le_add_right _ _)
    · rw [List.mem_singleton.mp hq]; exact hl
theorem grpL_txt {m : Mks} {e : Ens} : ∀ l : Ens, (∀ q ∈ l, IsNm q.1) → ∀ q ∈ grpL m e l, q.2.length ≤ l.length := by
  refine rev_ind (fun _ q hq => absurd hq (by simp [grpL])) fun l q ih => ?_
  · intro h r hr
    rw [grpL_snoc] at hr
    have := addT_txt (ih fun x hx => h x (List.mem_append_left _ hx)) r hr
    obtain ⟨c, e1, _⟩ := h q (by simp)
    rw [e1] at this
    rw [List.length_append]
    exact this
def F_blocks (cWeb : Addr) : FS := fun ds P => ∃ m e, ds = [webD cWeb m e] ∧ WIn m e ∧ P (.ow (.lst ((blkL m e).map .str)))
def U_blocks_1_b_1 (cWeb : Addr) : DS := (uPutT 1 3 (uX (uBin fAdd (uGetT 1 3 (uC (.str ""))) (uVar 2))))
def U_blocks_1_b_0 (cWeb : Addr) : DS := uSeq (uSetT 3 (uX (uCall (F_block_key cWeb) (uCons (uVar 0) (uCons (uVar 2) uNil))))) (U_blocks_1_b_1 cWeb)
def U_blocks_2 (cWeb : Addr) : DS := (uRet (uX (uSortVT 1)))
def U_blocks_1 (cWeb : Addr) : DS := uSeq (uFor (uItQ (uMeth cWeb "edges" (F_Web_edges cWeb) (uVar 0) uNil)) (gNm 2) (U_blocks_1_b_0 cWeb)) (U_blocks_2 cWeb)
def U_blocks_0 (cWeb : Addr) : DS := uSeq (uSetT 1 (uX uDictT)) (U_blocks_1 cWeb)
theorem ok_blocks {cWeb : Addr} {mc : Value} (B : Bt mg) (W : WebC K mg cWeb mc) (K_Web_edges : KnownM P w K mg base cWeb "edges" 1 ["self"] (spN K (F_Web_edges cWeb))) (K_block_key : Known P w K mg base "block_key" 6 ["web", "edge"] (spN K (F_block_key cWeb))) (Hr : Here K mg "blocks" s_blocks ["web"]) : Known P w K mg base "blocks" 7 ["web"] (spN K (F_blocks cWeb)) := by
  obtain ⟨f, fd, F, hm, hbi⟩ := Hr.ex
  refine fn_data (u := (U_blocks_0 cWeb)) F hm hbi sc_blocks ?len (fun cdv A outer s H E hr => (dss_cons
    (ds_setT (i := 1) (PD.x d_dictT) sc_blocks.nd) (dss_cons
    (ds_for (di_any (d_meth0 K_Web_edges (hr.mono (by omega)) (d_var 0))) (dg_name (i := 2) sc_blocks.nd) (dss_cons
    (ds_setT (i := 3) (PD.x (d_call K_block_key (hr.mono (by omega)) (da_cons (d_var 0) (da_cons (d_var 2) da_nil)))) sc_blocks.nd) (dss_one
    (ds_putT (i := 1) (j := 3) (hu_of hr) (PD.x (d_add (d_getT 1 3 (hu_of hr) d_str) (d_var 2))))))) (dss_one
    (ds_ret (PD.x (d_sortVT 1 B.sorted_))))))) ?hu
  case len => rintro ds P ⟨m, e, rfl, _⟩; rfl
  case hu =>
    rintro ds P ⟨m, e, rfl, W0, k⟩
    have el := W0.elen
    unfold U_blocks_0
    walk_at "dm"
    intro a
    walk_at "dm"
    unfold U_blocks_1
    walk_at "dm"
    refine for_pre e (fun q => D.str q.1) (fun pre x => ∃ v2 v3, x = [.sh (webD cWeb m e), .tr (.dt a (grpL m e pre)), v2, v3]) (fun Q q => ?_) ⟨_, _, rfl⟩ ?_ ?_
    · walk_at "dm"
      refine ⟨_, rfl, rfl, m, e, rfl, ?_⟩
      walk_at "dm"
      exact q
    · rintro pre q post hpp x ⟨v2, v3, rfl⟩
      have hq : q ∈ e := by rw [hpp]; simp
      have hz := aget_of W0.en (show (q.1, q.2) ∈ e from hq)
      have hsub : ∀ x ∈ pre, x ∈ e := fun x hx => by rw [hpp]; exact List.mem_append_left _ hx
      have hl : pre.length + 1 ≤ e.length := by rw [hpp]; simp
      unfold U_blocks_1_b_0
      walk_at "dm"
      refine ⟨m, e, q.1, q.2, rfl, W0, hz, fun c => ?_⟩
      walk_at "dm"
      unfold U_blocks_1_b_1
      walk_at "dm"
      have hx := tGet_len (k := kE m e q.2) (grpL_txt (m := m) (e := e) pre fun x hx => (W0.er x (hsub x hx)).1)
      obtain ⟨cc, e1, _⟩ := (W0.er q hq).1
      refine ⟨a, _, c, _, rfl, rfl, Str.ofString "", rfl, ?_⟩
      refine ⟨?_, _, rfl, a, _, c, _, rfl, rfl, ?_, ?_⟩
      · rw [e1]
        have : (S [cc]).length = 1 := rfl
        have hx : ((tGet (grpL m e pre) (kI (keyL m e q.2))).getD (Str.ofString "")).length ≤ pre.length := hx
        omega
      · have := grpL_len m e pre
        omega
      · refine ⟨.sh (.str q.1), .tr (.tup c (((keyL m e q.2).map D.int).map .leaf)), ?_⟩
        rw [grpL_snoc]
        rfl
    · rintro x ⟨v2, v3, rfl⟩
      unfold U_blocks_2
      walk_at "dm"
      refine ⟨a, _, rfl, ?_, k⟩
      have := grpL_len m e e
      omega
-- §SPLIT
theorem sl_head {x : D} {xs : List D} {P : R → Prop} (h : P (.ow (.lst [x]))) : fSl (R.ow (OD.lst (x :: xs))).look none (some 1) P := by
  show P (.ow (.lst (DL.cutD (x :: xs) none (some ((1 : Nat) : Int)))))
  rw [cutD_to]
  exact h
theorem aget_srtR {m : Mks} {e : Ens} (R0 : RawOk m e) (z : Str) : aget (srtE e) z = aget e z := by
  rw [aget_srtE']
  cases h : aget e z with
  | none => rfl
  | some p => show some (sp p) = some p; rw [sp_lt (R0.el _ (aget_in h))]
def F__law_left_part : FS := fun ds P => ∃ m e z g p, ds = [rawD m e, .str z, .int g] ∧ RawOk m e ∧ aget e z = some p ∧ P (.ow (.lst ((compL (srtM m) (remE g (srtE e)) (stN g p)).map .int)))
def U_law_left_part_2_b_1_b_1_t_1 : DS := (uApp 3 (uX (uVar 8)))
def U_law_left_part_2_b_1_b_1_t_0 : DS := uSeq (uApp 5 (uX (uVar 8))) U_law_left_part_2_b_1_b_1_t_1
def U_law_left_part_2_b_1_b_1 : DS := (uIf (uAnd (uTest (uBin fNe (uVar 8) (uVar 2))) (uTest (uBin (fInU true) (uVar 8) (uVar 5)))) U_law_left_part_2_b_1_b_1_t_0 uNext)
def U_law_left_part_2_b_1_b_0 : DS := uSeq (uSet 8 (uX (uCall F__law_there (uCons (uVar 0) (uCons (uVar 7) (uCons (uVar 6) uNil)))))) U_law_left_part_2_b_1_b_1
def U_law_left_part_2_b_1 : DS := (uFor (uItQ (uCall F__law_at (uCons (uVar 0) (uCons (uVar 6) uNil)))) (gNm 7) U_law_left_part_2_b_1_b_0)
def U_law_left_part_2_b_0 : DS := uSeq (uSet 6 (uPop 3)) U_law_left_part_2_b_1
def U_law_left_part_3 : DS := (uRet (uX (uB fSortedV (uVar 5))))
def U_law_left_part_2 : DS := uSeq (uWhile (uTest (uBin fNe (uVar 3) (uLst uNil))) U_law_left_part_2_b_0) U_law_left_part_3
def U_law_left_part_1 : DS := uSeq (uOwn 5 (uX (uB fListU (uVar 3)))) U_law_left_part_2
def U_law_left_part_0 : DS := uSeq (uOwn 3 (uX (uSl (uLc (uItQ (uBin fAt (uBin fAt (uVar 0) (uC (.int 1))) (uVar 1))) (gNm 4) (uTest (uBin fNe (uVar 4) (uVar 2))) (uVar 4) [4]) uNo (uPart (uC (.int 1)))))) U_law_left_part_1
theorem ok__law_left_part (B : Bt mg) (K__law_at : Known P w K mg base "_law_at" 1 ["_law_raw_here", "_law_point"] (spN K F__law_at)) (K__law_there : Known P w K mg base "_law_there" 1 ["_law_raw_here", "_law_letter", "_law_point"] (spN K F__law_there)) (Hr : Here K mg "_law_left_part" s__law_left_part ["_law_raw_here", "_law_letter", "_law_gone"]) : Known P w K mg base "_law_left_part" 2 ["_law_raw_here", "_law_letter", "_law_gone"] (spN K F__law_left_part) := by
  obtain ⟨f, fd, F, hm, hbi⟩ := Hr.ex
  refine fn_data (u := U_law_left_part_0) F hm hbi sc__law_left_part ?len (fun cdv A outer s H E hr => (dss_cons
    (ds_own (i := 3) (PD.x (d_slice (d_lc (own := [("_law_point", 4)]) sc__law_left_part.nd (blkD (N := ["_law_raw_here", "_law_letter", "_law_gone", "_law_line", "_law_point", "_law_found", "_law_here", "_law_other", "_law_there_here"]) (sc := defScope s__law_left_part) (by decide +kernel)) (by decide) (di_any (d_at (hu_of hr) (d_at (hu_of hr) (d_var 0) d_int) (d_var 1))) (fun _ _ _ _ _ => (dg_name (i := 4) sc__law_left_part.nd)) (fun _ _ _ _ _ => (dts_one (dt_ne hr.units (d_var 4) (d_var 2)))) (fun _ _ _ _ _ => (d_var 4))) do_none (do_some d_int))) sc__law_left_part.nd) (dss_cons
    (ds_own (i := 5) (PD.x (d_listU B.list_ (d_var 3))) sc__law_left_part.nd) (dss_cons
    (ds_while (dt_ne hr.units (d_var 3) (d_lst da_nil)) (dss_cons
    (ds_set (i := 6) (dx_pop (i := 3)) sc__law_left_part.nd) (dss_one
    (ds_for (di_any (d_call K__law_at (hr.mono (by omega)) (da_cons (d_var 0) (da_cons (d_var 6) da_nil)))) (dg_name (i := 7) sc__law_left_part.nd) (dss_cons
    (ds_set (i := 8) (PD.x (d_call K__law_there (hr.mono (by omega)) (da_cons (d_var 0) (da_cons (d_var 7) (da_cons (d_var 6) da_nil))))) sc__law_left_part.nd) (dss_one
    (ds_if (PDW.pt (dw_and (dt_ne hr.units (d_var 8) (d_var 2)) (dw_and1 (dt_notinU (hu_of hr) (d_var 8) (d_var 5))))) (dss_cons
    (ds_append (i := 5) (PD.x (d_var 8))) (dss_one
    (ds_append (i := 3) (PD.x (d_var 8))))) dss_nil))))))) (dss_one
    (ds_ret (PD.x (d_sortedV B.sorted_ (d_var 5))))))))) ?hu
  case len => rintro ds P ⟨m, e, z, g, p, rfl, _⟩; rfl
  case hu =>
    rintro ds P ⟨m, e, z, g, p, rfl, R0, hz, k⟩
    have W0 := R0.toWIn
    have W1 := win_srt W0
    have el := W1.elen
    have ml := W1.mlen
    have WR := win_rem W1 g
    obtain ⟨_, hne, h1, h2⟩ := W0.er _ (aget_in hz)
    have hng := stN_ne (g := g) hne
    have hs : stN g p ∈ (srtM m).map (·.1) := by rw [srtM_keys]; exact srtI_mem.mpr (by rcases stN_or g p with y | y <;> rw [y] <;> assumption)
    unfold U_law_left_part_0 rawD eD
    walk_at "dm"
    refine lc_pure [p.1, p.2] D.int (fun x => decide (x ≠ g)) D.int (fun Q q => at_ek hz ?_) (by show 2 ≤ 1000000; decide) (fun x hx S' T' hS hT => ?_) ?_
    · unfold pD
      walk_at "dm"
      exact q
    · walk_at "dm"
      by_cases hx : x = g
      · rw [decide_eq_true hx]
        exact hT (decide_eq_false (fun z => z hx))
      · rw [decide_eq_false hx]
        exact hS (decide_eq_true hx)
    generalize hn : stN g p = n at k hng hs
    have hsl : ∀ Q : R → Prop, Q (.ow (.lst [.int n])) → fSl (R.ow (OD.lst (([p.1, p.2].filter fun x => decide (x ≠ g)).map D.int))).look none (some 1) Q := by
      intro Q q
      unfold stN at hn
      by_cases y : p.1 = g
      · rw [if_pos y] at hn
        have h2 : ¬ p.2 = g := fun z => hne (y.trans z.symm)
        rw [show ([p.1, p.2].filter fun x => decide (x ≠ g)) = [p.2] by simp [y, h2], hn]
        exact sl_head q
      · rw [if_neg y] at hn
        rw [show ([p.1, p.2].filter fun x => decide (x ≠ g)) = p.1 :: ([p.2].filter fun x => decide (x ≠ g)) by simp [y], hn]
        exact sl_head q
    refine hsl _ ?_
    walk_at "dm"
    unfold U_law_left_part_1
    walk_at "dm"
    unfold U_law_left_part_2
    walk_at "dm"
    have e1 : ([D.int n] : List D) = [n].map D.int := rfl
    refine ⟨fun c x => ∃ found line v4 v6 v7 v8, x = [.sh (.tup [mD m, .dk (dkv Sum.inr pD e)]), .sh (.str z), .sh (.int g), .own none (.lst (line.map .int)), v4, .own none (.lst (found.map .int)), v6, v7, v8] ∧ Seen (srtM m) (remE g (srtE e)) n found line (fun _ _ => False) ∧ c = 2 * (12 - found.length) + line.length ∧ c ≤ 100, ⟨_, [n], [n], _, _, _, _, rfl, ⟨by simp, by simp, fun x hx => ?_, fun x hx => hx, fun x hx hl => absurd hx hl⟩, rfl, by show 2 * (12 - 1) + 1 ≤ 100; decide⟩, ?_⟩
    · rw [List.mem_singleton.mp hx]
      exact ⟨hs, Rch.refl _ n⟩
    rintro c x ⟨found, line, v4, v6, v7, v8, rfl, T, rfl, hc⟩
    walk_at "dm"
    refine ⟨by decide, ne_nil ints_ok ?_⟩
    rcases snoc_cases line with rfl | ⟨l, h, rfl⟩
    · walk_at "dm"
      unfold U_law_left_part_3
      walk_at "dm"
      refine sortV_I ?_
      rw [T.done WR]
      walk_at "dm"
      exact k
    · rw [show (l ++ [h]).map D.int = l.map D.int ++ [D.int h] by simp, isEmpty_snoc]
      walk_at "dm"
      unfold U_law_left_part_2_b_0
      walk_at "dm"
      refine ⟨_, l.map .int, .int h, rfl, ?_⟩
      walk_at "dm"
      obtain ⟨T1, hh⟩ := T.pop
      obtain ⟨hk, hr⟩ := T.rc h hh
      have hhg : h ≠ g := rem_ne W1.en hng hr
      have fl := T.len WR
      generalize hB : 2 * (12 - found.length) + (l ++ [h]).length = B at hc ⊢
      have hB2 : 2 * (12 - found.length) + l.length + 1 = B := by rw [← hB]; simp; omega
      clear hB
      unfold U_law_left_part_2_b_1
      walk_at "dm"
      refine for_pre (((srtE e).filter fun p => onE h p.2).map (·.1)) D.str (fun pre x => ∃ found l v4 v7 v8, x = [.sh (.tup [mD m, .dk (dkv Sum.inr pD e)]), .sh (.str z), .sh (.int g), .own none (.lst (l.map .int)), v4, .own none (.lst (found.map .int)), .sh (.int h), v7, v8] ∧ Seen (srtM m) (remE g (srtE e)) n found l (okS (remE g (srtE e)) h pre) ∧ h ∈ found ∧ 2 * (12 - found.length) + l.length < B) (fun Q q => ?_) ⟨found, l, _, _, _, rfl, T1, hh, by omega⟩ ?_ ?_
      · walk_at "dm"
        refine ⟨m, e, h, rfl, W0, ?_⟩
        walk_at "dm"
        rw [signs_S]
        unfold atE
        rw [← txtE_chs]
        · exact q
        · intro z hz
          obtain ⟨p, hp, rfl⟩ := List.mem_map.mp hz
          exact (W1.er p (List.mem_filter.mp hp).1).1
      · rintro pre z' post hpp x ⟨found, l, v4, v7, v8, rfl, T2, hh, hlt⟩
        have hzm : z' ∈ ((srtE e).filter fun p => onE h p.2).map (·.1) := by rw [hpp]; simp
        obtain ⟨q, hq, rfl⟩ := List.mem_map.mp hzm
        obtain ⟨hq1, hq2⟩ := List.mem_filter.mp hq
        have hz' := aget_of W1.en (show (q.1, q.2) ∈ srtE e from hq1)
        have fl2 := T2.len WR
        unfold U_law_left_part_2_b_1_b_0
        walk_at "dm"
        refine ⟨m, e, q.1, h, q.2, rfl, by rw [← aget_srtR R0]; exact hz', ?_⟩
        walk_at "dm"
        unfold U_law_left_part_2_b_1_b_1
        walk_at "dm"
        have ho := oth_on hq2 hhg
        by_cases hg : oth h q.2 = g
        · rw [decide_eq_true hg] at ho ⊢
          exact ⟨found, l, _, _, _, rfl, T2.skip (rem_none W1.en hz' ho), hh, hlt⟩
        · rw [decide_eq_false hg] at ho ⊢
          have hz' := (aget_rem W1.en).mpr ⟨hz', ho⟩
          refine ⟨rfl, flat_ints found, ?_⟩
          by_cases ho : oth h q.2 ∈ found
          · have hc : inD (.int (oth h q.2)) (found.map D.int) = true := by rw [inD_ints]; exact decide_eq_true ho
            refine Eq.mpr (if_neg (by rw [hc]; decide)) ?_
            exact ⟨found, l, _, _, _, rfl, T2.old hz' ho, hh, hlt⟩
          · have hc : inD (.int (oth h q.2)) (found.map D.int) = false := by rw [inD_ints]; exact decide_eq_false ho
            refine Eq.mpr (if_pos (by rw [hc]; rfl)) ?_
            have T3 := T2.new WR hh hz' hq2 ho
            have fl3 := T3.len WR
            rw [List.length_append] at fl3
            unfold U_law_left_part_2_b_1_b_1_t_0
            walk_at "dm"
            refine ⟨⟨_, _, rfl⟩, _, _, rfl, by rw [List.length_map]; omega, ?_⟩
            unfold U_law_left_part_2_b_1_b_1_t_1
            walk_at "dm"
            refine ⟨⟨_, _, rfl⟩, _, _, rfl, by rw [List.length_map]; omega, ?_⟩
            refine ⟨found ++ [oth h q.2], l ++ [oth h q.2], _, _, _, by rw [List.map_append, List.map_append]; rfl, T3, List.mem_append_left _ hh, ?_⟩
            rw [List.length_append, List.length_append]
            show 2 * (12 - (found.length + 1)) + (l.length + 1) < B
            have : found.length + 1 ≤ 12 := fl3
            omega
      · rintro x ⟨found, l, v4, v7, v8, rfl, T2, hh, hlt⟩
        exact ⟨_, hlt, found, l, _, _, _, _, rfl, T2.finR, rfl, by omega⟩
theorem eqv_ints : ∀ xs ys : List Int, PyData.eqvAll (toPyL (xs.map .int)) (toPyL (ys.map .int)) = decide (xs = ys)
  | [], [] => rfl
  | [], y :: ys => rfl
  | x :: xs, [] => rfl
  | x :: xs, y :: ys => by
    show (decide (x = y) && PyData.eqvAll (toPyL (xs.map .int)) (toPyL (ys.map .int))) = _
    rw [eqv_ints xs ys, Bool.eq_iff_iff]
    simp
theorem eq_ints {xs ys : List Int} {P : R → Prop} (p : P (.sh (.bl (decide (xs = ys))))) : fEq (.lst (xs.map .int)) (.lst (ys.map .int)) P := by
  refine ⟨okPy_lst ints_ok, okPy_lst ints_ok, ?_⟩
  rw [show PyData.eqv (toPy (.lst (xs.map .int))) (toPy (.lst (ys.map .int))) = decide (xs = ys) from eqv_ints xs ys]
  exact p
theorem key_all {m : Mks} {e : Ens} (R0 : RawOk m e) {y z : Str} {p q : Int × Int} (hy : aget e y = some p) (hz : aget e z = some q) :
    ((srtI (m.map (·.1))).map fun g => decide (compL (srtM m) (remE g (srtE e)) (stN g p) = compL (srtM m) (remE g (srtE e)) (stN g q))).all id = decide (kE (srtM m) (srtE e) p = kE (srtM m) (srtE e) q) := by
  have W0 := R0.toWIn
  have W1 := win_srt W0
  have inn : ∀ {z : Str} {p : Int × Int} (g : Int), aget e z = some p → stN g p ∈ (srtM m).map (·.1) := fun {z p} g hz => by
    obtain ⟨_, hne, h1, h2⟩ := W0.er _ (aget_in hz)
    rw [srtM_keys]
    exact srtI_mem.mpr (by rcases stN_or g p with y | y <;> rw [y] <;> assumption)
  rw [Bool.eq_iff_iff, decide_eq_true_eq, List.all_eq_true]
  constructor
  · intro h
    unfold kE kI keyL
    congr 1
    refine List.map_congr_left fun r hr => ?_
    have hr2 : r.1 ∈ srtI (m.map (·.1)) := by rw [← srtM_keys]; exact List.mem_map.mpr ⟨r, hr, rfl⟩
    have := h _ (List.mem_map.mpr ⟨r.1, hr2, rfl⟩)
    exact (minC_eq W1 (inn _ hy) (inn _ hz)).mpr (of_decide_eq_true this)
  · intro h b hb
    obtain ⟨g, hg, rfl⟩ := List.mem_map.mp hb
    rw [← srtM_keys] at hg
    obtain ⟨r, hr, rfl⟩ := List.mem_map.mp hg
    have h2 : keyL (srtM m) (srtE e) p = keyL (srtM m) (srtE e) q := (List.map_inj_right (f := (Sum.inl : Int → Key)) fun _ _ e => Sum.inl.inj e).mp h
    unfold keyL at h2
    have h3 := List.map_inj_left.mp h2 r hr
    exact decide_eq_true ((minC_eq W1 (inn _ hy) (inn _ hz)).mp h3)
-- §SPLIT
def F__law_blocks : FS := fun ds P => ∃ m e, ds = [rawD m e] ∧ RawOk m e ∧ P (.ow (.lst ((blkL (srtM m) (srtE e)).map .str)))
def U_law_blocks_1_b_1_b_1_t_0 : DS := (uSet 3 (uX (uVar 4)))
def U_law_blocks_1_b_1_b_1 : DS := (uIf (uTru (uB fAll (uLc (uItQ (uB fSortedV (uBin fAt (uVar 0) (uC (.int 0))))) (gNm 6) uYes (uBin fEq (uCall F__law_left_part (uCons (uVar 0) (uCons (uVar 5) (uCons (uVar 6) uNil)))) (uCall F__law_left_part (uCons (uVar 0) (uCons (uVar 2) (uCons (uVar 6) uNil))))) [6]))) U_law_blocks_1_b_1_b_1_t_0 uNext)
def U_law_blocks_1_b_1_b_0 : DS := uSeq (uSet 5 (uX (uBin fAt (uBin fAt (uVar 1) (uVar 4)) (uC (.int 0))))) U_law_blocks_1_b_1_b_1
def U_law_blocks_1_b_2_t_0 : DS := (uApp 1 (uX (uVar 2)))
def U_law_blocks_1_b_2_e_0 : DS := (uSetIx 1 (uVar 3) (uX (uBin fAdd (uBin fAt (uVar 1) (uVar 3)) (uVar 2))))
def U_law_blocks_1_b_2 : DS := (uIf (uTest (uBin fEq (uVar 3) (uNeg (uC (.int 1))))) U_law_blocks_1_b_2_t_0 U_law_blocks_1_b_2_e_0)
def U_law_blocks_1_b_1 : DS := uSeq (uFor (uR1 (uCons (uB fLenU (uVar 1)) uNil)) (gNm 4) U_law_blocks_1_b_1_b_0) U_law_blocks_1_b_2
def U_law_blocks_1_b_0 : DS := uSeq (uSet 3 (uX (uNeg (uC (.int 1))))) U_law_blocks_1_b_1
def U_law_blocks_2 : DS := (uRet (uX (uB fSortedW (uVar 1))))
def U_law_blocks_1 : DS := uSeq (uFor (uItQ (uB fSortedV (uBin fAt (uVar 0) (uC (.int 1))))) (gNm 2) U_law_blocks_1_b_0) U_law_blocks_2
def U_law_blocks_0 : DS := uSeq (uOwn 1 (uX (uLst uNil))) U_law_blocks_1
theorem ok__law_blocks (B : Bt mg) (K__law_left_part : Known P w K mg base "_law_left_part" 2 ["_law_raw_here", "_law_letter", "_law_gone"] (spN K F__law_left_part)) (Hr : Here K mg "_law_blocks" s__law_blocks ["_law_raw_here"]) : Known P w K mg base "_law_blocks" 3 ["_law_raw_here"] (spN K F__law_blocks) := by
  obtain ⟨f, fd, F, hm, hbi⟩ := Hr.ex
  refine fn_data (u := U_law_blocks_0) F hm hbi sc__law_blocks ?len (fun cdv A outer s H E hr => (dss_cons
    (ds_own (i := 1) (PD.x (d_lst da_nil)) sc__law_blocks.nd) (dss_cons
    (ds_for (di_any (d_sortedV B.sorted_ (d_at (hu_of hr) (d_var 0) d_int))) (dg_name (i := 2) sc__law_blocks.nd) (dss_cons
    (ds_set (i := 3) (PD.x (d_neg d_int)) sc__law_blocks.nd) (dss_cons
    (ds_for (di_range1 B.range_ (da_cons (d_lenU B.len_ (d_var 1)) da_nil)) (dg_name (i := 4) sc__law_blocks.nd) (dss_cons
    (ds_set (i := 5) (PD.x (d_at (hu_of hr) (d_at (hu_of hr) (d_var 1) (d_var 4)) d_int)) sc__law_blocks.nd) (dss_one
    (ds_if (dt_tru (d_all B.all_ (d_lc (own := [("_law_gone", 6)]) sc__law_blocks.nd (blkD (N := ["_law_raw_here", "_law_found", "_law_letter", "_law_place", "_law_k", "_law_first", "_law_gone"]) (sc := defScope s__law_blocks) (by decide +kernel)) (by decide) (di_any (d_sortedV B.sorted_ (d_at (hu_of hr) (d_var 0) d_int))) (fun _ _ _ _ _ => (dg_name (i := 6) sc__law_blocks.nd)) (fun _ _ _ _ _ => dts_nil) (fun _ _ _ _ _ => (d_eq hr.units (d_call K__law_left_part (hr.mono (by omega)) (da_cons (d_var 0) (da_cons (d_var 5) (da_cons (d_var 6) da_nil)))) (d_call K__law_left_part (hr.mono (by omega)) (da_cons (d_var 0) (da_cons (d_var 2) (da_cons (d_var 6) da_nil))))))))) (dss_one
    (ds_set (i := 3) (PD.x (d_var 4)) sc__law_blocks.nd)) dss_nil)))) (dss_one
    (ds_if (dt_eq hr.units (d_var 3) (d_neg d_int)) (dss_one
    (ds_append (i := 1) (PD.x (d_var 2)))) (dss_one
    (ds_setIx (i := 1) (d_var 3) (PD.x (d_add (d_at (hu_of hr) (d_var 1) (d_var 3)) (d_var 2)))))))))) (dss_one
    (ds_ret (PD.x (d_sortedW B.sorted_ (d_var 1)))))))) ?hu
  case len => rintro ds P ⟨m, e, rfl, _⟩; rfl
  case hu =>
    rintro ds P ⟨m, e, rfl, R0, k⟩
    have W0 := R0.toWIn
    have W1 := win_srt W0
    have el := W1.elen
    have ml := W0.mlen
    unfold U_law_blocks_0
    walk_at "dm"
    refine ⟨by decide, ?_⟩
    unfold U_law_blocks_1
    walk_at "dm"
    refine for_pre (srtE e) (fun q => D.str q.1) (fun pre x => ∃ v2 v3 v4 v5 v6, x = [.sh (rawD m e), .own none (.lst (((grpL (srtM m) (srtE e) pre).map (·.2)).map .str)), v2, v3, v4, v5, v6]) (fun Q q => ?_) ⟨_, _, _, _, _, rfl⟩ ?_ ?_
    · unfold rawD eD
      walk_at "dm"
      refine sortV_ek (by rw [← srtE_len]; omega) ?_
      rw [← srtE_keys]
      rw [List.map_map]
      exact q
    · rintro pre q post hpp x ⟨v2, v3, v4, v5, v6, rfl⟩
      have hq : q ∈ srtE e := by rw [hpp]; simp
      have hz := aget_of W1.en (show (q.1, q.2) ∈ srtE e from hq)
      have hz0 : aget e q.1 = some q.2 := by rw [← aget_srtR R0]; exact hz
      have hsub : ∀ x ∈ pre, x ∈ srtE e := fun x hx => by rw [hpp]; exact List.mem_append_left _ hx
      have hl : pre.length + 1 ≤ (srtE e).length := by rw [hpp]; simp
      have G0 := grp_all W1 pre hsub
      have gl := grpL_len (srtM m) (srtE e) pre
      have gt := grpL_txt (m := srtM m) (e := srtE e) pre fun x hx => (W1.er x (hsub x hx)).1
      rw [grpL_snoc]
      generalize hG : grpL (srtM m) (srtE e) pre = G at G0 gl gt ⊢
      unfold U_law_blocks_1_b_0
      walk_at "dm"
      unfold U_law_blocks_1_b_1
      walk_at "dm"
      refine ⟨1, rfl, ?_⟩
      refine for_nums G.length (fun i x => ∃ pl v4 v5 v6, x = [.sh (rawD m e), .own none (.lst ((G.map (·.2)).map .str)), .sh (.str q.1), .sh (.int pl), v4, v5, v6] ∧ ((pl = -1 ∧ ∀ j r, j < i → G[j]? = some r → r.1 ≠ kE (srtM m) (srtE e) q.2) ∨ ∃ (j : Nat) (r : List Key × Str), j < i ∧ pl = (j : Int) ∧ G[j]? = some r ∧ r.1 = kE (srtM m) (srtE e) q.2)) (fun Q q => ?_) ⟨_, _, _, _, rfl, .inl ⟨rfl, fun j r h => absurd h (Nat.not_lt_zero _)⟩⟩ ?_ ?_
      · walk_at "dm"
        refine ⟨_, rfl, ?_, ?_, ?_⟩
        · rw [List.length_map, List.length_map]; omega
        · rw [List.length_map, List.length_map]; omega
        · rw [List.length_map, List.length_map, Int.toNat_natCast]; exact q
      · rintro i hi x ⟨pl, v4, v5, v6, rfl, hpl⟩
        obtain ⟨r, hr⟩ : ∃ r, G[i]? = some r := ⟨G[i], List.getElem?_eq_getElem hi⟩
        obtain ⟨c, l, p, e1, e2, e3⟩ := G0.hd r (List.mem_of_getElem? hr)
        unfold U_law_blocks_1_b_1_b_0
        walk_at "dm"
        refine ix_at (x := .str r.2) (by rw [List.getElem?_map, List.getElem?_map, hr]; rfl) ?_
        walk_at "dm"
        rw [e1]
        refine ix_S (l := c :: l) (n := 0) (c := c) rfl ?_ ?_
        · have := gt r (List.mem_of_getElem? hr)
          rw [e1, S_len] at this
          omega
        walk_at "dm"
        unfold U_law_blocks_1_b_1_b_1
        walk_at "dm"
        have hy0 : aget e (S [c]) = some p := by rw [← aget_srtR R0]; exact e2
        refine lc_map (srtI (m.map (·.1))) D.int (fun g => .bl (decide (compL (srtM m) (remE g (srtE e)) (stN g p) = compL (srtM m) (remE g (srtE e)) (stN g q.2)))) (fun Q q => ?_) (by rw [srtI_len, List.length_map]; omega) (fun g hg S' hS => ?_) ?_
        · unfold rawD mD
          walk_at "dm"
          exact sortV_mk (by omega) q
        · walk_at "dm"
          refine ⟨m, e, S [c], g, p, rfl, R0, hy0, ?_⟩
          walk_at "dm"
          refine ⟨m, e, q.1, g, q.2, rfl, R0, hz0, ?_⟩
          walk_at "dm"
          exact eq_ints hS
        walk_at "dm"
        refine ⟨(srtI (m.map (·.1))).map fun g => decide (compL (srtM m) (remE g (srtE e)) (stN g p) = compL (srtM m) (remE g (srtE e)) (stN g q.2)), by rw [List.map_map]; rfl, ?_⟩
        rw [key_all R0 hy0 hz0]
        walk_at "dm"
        by_cases hk : kE (srtM m) (srtE e) p = kE (srtM m) (srtE e) q.2
        · rw [decide_eq_true hk]
          unfold U_law_blocks_1_b_1_b_1_t_0
          walk_at "dm"
          exact ⟨_, _, _, _, rfl, .inr ⟨i, r, Nat.lt_succ_self _, rfl, hr, e3.trans hk⟩⟩
        · rw [decide_eq_false hk]
          refine ⟨_, _, _, _, rfl, ?_⟩
          rcases hpl with ⟨h1, h2⟩ | ⟨j, r', h1, h2⟩
          · refine .inl ⟨h1, fun j r' hj hr' => ?_⟩
            rcases Nat.lt_succ_iff_lt_or_eq.mp hj with hj | rfl
            · exact h2 j r' hj hr'
            · rw [hr] at hr'
              cases hr'
              rw [e3]; exact hk
          · exact .inr ⟨j, r', Nat.lt_succ_of_lt h1, h2⟩
      · rintro x ⟨pl, v4, v5, v6, rfl, hpl⟩
        unfold U_law_blocks_1_b_2
        walk_at "dm"
        refine ⟨1, rfl, ?_⟩
        walk_at "dm"
        rcases hpl with ⟨rfl, h2⟩ | ⟨j, r, hj, rfl, hr, hk⟩
        · rw [decide_eq_true (show (-1 : Int) = -1 from rfl)]
          unfold U_law_blocks_1_b_2_t_0
          walk_at "dm"
          refine ⟨⟨_, _, rfl⟩, _, _, rfl, by rw [List.length_map, List.length_map]; omega, .sh (.str q.1), .sh (.int (-1)), v4, v5, v6, ?_⟩
          rw [addT_new fun r hr => ?_]
          · rw [List.map_append, List.map_append]
            rfl
          · obtain ⟨j, hj⟩ := List.getElem?_of_mem hr
            exact h2 j r (List.getElem?_eq_some_iff.mp hj).1 hj
        · rw [decide_eq_false (show ¬ ((j : Int) = -1) by omega)]
          unfold U_law_blocks_1_b_2_e_0
          walk_at "dm"
          refine ix_at (x := .str r.2) (by rw [List.getElem?_map, List.getElem?_map, hr]; rfl) ?_
          walk_at "dm"
          refine ⟨?_, ?_⟩
          · have := gt r (List.mem_of_getElem? hr)
            obtain ⟨cc, e1, _⟩ := (W1.er q hq).1
            rw [e1]
            have : (S [cc]).length = 1 := rfl
            omega
          · refine ⟨⟨_, _, rfl⟩, j, _, _, rfl, rfl, by rw [List.length_map, List.length_map]; omega, .sh (.str q.1), .sh (.int (j : Int)), v4, v5, v6, ?_⟩
            rw [addT_old G0.nd hr hk, List.map_set, List.map_set]
    · rintro x ⟨v2, v3, v4, v5, v6, rfl⟩
      unfold U_law_blocks_2
      walk_at "dm"
      exact ⟨_, rfl, k⟩
-- §SPLIT
abbrev S33 : List Sl → Prop := fun e => ∃ v2 v3 v4 v5 v6, e = [.un, .bag, v2, v3, v4, v5, v6]
theorem blk_on {cWeb : Addr} {m : Mks} {e : Ens} {P : R → Prop} (W : WIn m e) (k : P (.ow (.lst ((blkL m e).map .str)))) : F_blocks cWeb [.obj cWeb [("node_marks", mD m), ("edge_ends", eD e)]] P := ⟨m, e, rfl, W, k⟩
theorem blk_nil : blkL [] [] = [] := List.eq_nil_of_length_eq_zero (by unfold blkL; rw [srtS_len]; rfl)
theorem grp_one {m : Mks} {e : Ens} {k : List Key} : ∀ (l : Ens) (t : Str), (∀ q ∈ l, kE m e q.2 = k) → l.foldl (fun kvs q => addT kvs (kE m e q.2) q.1) [(k, t)] = [(k, l.foldl (fun t q => t ++ q.1) t)]
  | [], t, _ => rfl
  | q :: l, t, h => by
    rw [List.foldl_cons, List.foldl_cons, h q (by simp), addT_old (kvs := [(k, t)]) (by simp) (j := 0) (q := (k, t)) rfl rfl]
    exact grp_one l (t ++ q.1) fun x hx => h x (List.mem_cons_of_mem _ hx)
def m4 : Mks := [(0, 0), (1, 0), (2, 0), (3, 0)]
def e4 : Ens := [(S [97], (0, 1)), (S [98], (0, 2)), (S [99], (0, 3)), (S [100], (1, 2)), (S [101], (1, 3)), (S [102], (2, 3))]
theorem m4_eq : srtM (numM 4 []) = m4 := by
  have h : srtI ((numM 4 []).map (·.1)) = [0, 1, 2, 3] := (srtI_eq (List.Perm.refl _) (by decide +kernel)).symm
  unfold srtM
  rw [h]
  decide +kernel
theorem e4_eq : srtE (nmE (comP 4)) = e4 := by
  have h : srtS ((nmE (comP 4)).map (·.1)) = [S [97], S [98], S [99], S [100], S [101], S [102]] := (srtS_eq (by rw [show (nmE (comP 4)).map (·.1) = [S [97], S [98], S [99], S [100], S [101], S [102]] by decide +kernel]) (by decide +kernel)).symm
  unfold srtE
  rw [h]
  decide +kernel
theorem k4_adj : ∀ g ∈ ([0, 1, 2, 3] : List Int), ∀ a ∈ ([0, 1, 2, 3] : List Int), ∀ b ∈ ([0, 1, 2, 3] : List Int), a = g ∨ b = g ∨ a = b ∨ ∃ q ∈ remE g e4, q.2 = (a, b) ∨ q.2 = (b, a) := by decide +kernel
theorem k4_nd : (e4.map (·.1)).Nodup := by decide +kernel
theorem k4_rch {g a c : Int} (hg : g ∈ m4.map (·.1)) (ha : a ∈ m4.map (·.1)) (hc : c ∈ m4.map (·.1)) (h1 : a ≠ g) (h2 : c ≠ g) : Rch (remE g e4) a c := by
  rcases k4_adj g hg a ha c hc with h | h | h | ⟨q, hq, h⟩
  · exact absurd h h1
  · exact absurd h h2
  · subst h; exact Rch.refl _ _
  · exact (Rch.refl _ a).step ⟨q.1, q.2, aget_of (remE_nd k4_nd) hq, h⟩
theorem k4_ends : ∀ q ∈ e4, q.2.1 ∈ m4.map (·.1) ∧ q.2.2 ∈ m4.map (·.1) ∧ q.2.1 ≠ q.2.2 := by decide +kernel
theorem blk_four (W : WIn m4 e4) : blkL m4 e4 = [("abcdef" : Str)] := by
  have key : ∀ q ∈ e4, kE m4 e4 q.2 = kE m4 e4 (0, 1) := fun q hq => by
    obtain ⟨h1, h2, h3⟩ := k4_ends q hq
    unfold kE keyL
    congr 1
    refine List.map_congr_left fun r hr => ?_
    have hr2 : r.1 ∈ m4.map (·.1) := List.mem_map.mpr ⟨r, hr, rfl⟩
    have inn : ∀ p : Int × Int, p.1 ∈ m4.map (·.1) → p.2 ∈ m4.map (·.1) → stN r.1 p ∈ m4.map (·.1) := fun p a b => by rcases stN_or r.1 p with y | y <;> rw [y] <;> assumption
    have i1 := inn q.2 h1 h2
    have i2 := inn (0, 1) (by decide) (by decide)
    refine (minC_eq W i1 i2).mpr (compL_same (win_rem W r.1) (compL_mem.mpr ⟨i1, k4_rch hr2 i2 i1 (stN_ne (by decide)) (stN_ne h3)⟩))
  unfold blkL grpL
  rw [show e4.foldl (fun kvs q => addT kvs (kE m4 e4 q.2) q.1) [] = e4.tail.foldl (fun kvs q => addT kvs (kE m4 e4 q.2) q.1) (addT [] (kE m4 e4 (0, 1)) (S [97])) from rfl]
  rw [addT_new (by simp)]
  show srtS ((e4.tail.foldl _ [(kE m4 e4 (0, 1), S [97])]).map (·.2)) = _
  rw [grp_one e4.tail (S [97]) fun q hq => key q (List.mem_of_mem_tail hq)]
  refine (srtS_eq ?_ ?_).symm
  · rw [show [(kE m4 e4 (0, 1), e4.tail.foldl (fun t q => t ++ q.1) (S [97]))].map (·.2) = [e4.tail.foldl (fun t q => t ++ q.1) (S [97])] from rfl]
    rw [show e4.tail.foldl (fun t q => t ++ q.1) (S [97]) = ("abcdef" : Str) by decide +kernel]
  · simp
def U_law_0_b_2_b_1_t_0 (e_UnknownNode : Addr) (e_UnknownEdge : Addr) (e_InvalidNode : Addr) (e_LimitExceeded : Addr) (cWeb : Addr) : DS := (uRet (uX (uC (.bl false))))
def U_law_0_b_2_b_2 (e_UnknownNode : Addr) (e_UnknownEdge : Addr) (e_InvalidNode : Addr) (e_LimitExceeded : Addr) (cWeb : Addr) : DS := (uApp 6 (uX (uC (.str ""))))
def U_law_0_b_2_b_1 (e_UnknownNode : Addr) (e_UnknownEdge : Addr) (e_InvalidNode : Addr) (e_LimitExceeded : Addr) (cWeb : Addr) : DS := uSeq (uIf (uNot (uTru (uCallO (F__law_same 4) 6 (uCons (uCall F__law_blocks (uCons (uVar 3) uNil)) uNil)))) (U_law_0_b_2_b_1_t_0 e_UnknownNode e_UnknownEdge e_InvalidNode e_LimitExceeded cWeb) uNext) (U_law_0_b_2_b_2 e_UnknownNode e_UnknownEdge e_InvalidNode e_LimitExceeded cWeb)
def U_law_0_b_2_b_0 (e_UnknownNode : Addr) (e_UnknownEdge : Addr) (e_InvalidNode : Addr) (e_LimitExceeded : Addr) (cWeb : Addr) : DS := uSeq (uOwn 6 (uX (uCall (F_blocks cWeb) (uCons (uVar 4) uNil)))) (U_law_0_b_2_b_1 e_UnknownNode e_UnknownEdge e_InvalidNode e_LimitExceeded cWeb)
def U_law_0_b_2 (e_UnknownNode : Addr) (e_UnknownEdge : Addr) (e_InvalidNode : Addr) (e_LimitExceeded : Addr) (cWeb : Addr) : DS := (uFor (uR1 (uCons (uC (.int 2)) uNil)) (gNm 5) (U_law_0_b_2_b_0 e_UnknownNode e_UnknownEdge e_InvalidNode e_LimitExceeded cWeb))
def U_law_0_b_1 (e_UnknownNode : Addr) (e_UnknownEdge : Addr) (e_InvalidNode : Addr) (e_LimitExceeded : Addr) (cWeb : Addr) : DS := uSeq (uSet 4 (uX (uCall (F__law_web cWeb) (uCons (uVar 3) uNil)))) (U_law_0_b_2 e_UnknownNode e_UnknownEdge e_InvalidNode e_LimitExceeded cWeb)
def U_law_0_b_0 (e_UnknownNode : Addr) (e_UnknownEdge : Addr) (e_InvalidNode : Addr) (e_LimitExceeded : Addr) (cWeb : Addr) : DS := uSeq (uSet 3 (uX (uCallB F__law_raw 1 (uCons (uCallB F__law_of 1 (uCons (uLst (uCons (uC (.int 4)) (uCons (uC (.int 9)) uNil))) uNil)) (uCons (uC (.int 10)) uNil))))) (U_law_0_b_1 e_UnknownNode e_UnknownEdge e_InvalidNode e_LimitExceeded cWeb)
def U_law_1 (e_UnknownNode : Addr) (e_UnknownEdge : Addr) (e_InvalidNode : Addr) (e_LimitExceeded : Addr) (cWeb : Addr) : DS := (uRet (uX (uAndV (uBin fEq (uCall (F_blocks cWeb) (uCons (uCall (F_Web_empty cWeb) uNil) uNil)) (uLst uNil)) (uBin fEq (uCall (F_blocks cWeb) (uCons (uCMethX cWeb (F_Web_complete e_UnknownNode e_UnknownEdge e_InvalidNode e_LimitExceeded cWeb) [.tup []] (fun _ => False) (uCons (uC (.int 4)) uNil)) uNil)) (uLst (uCons (uC (.str "abcdef")) uNil))))))
def U_law_0 (e_UnknownNode : Addr) (e_UnknownEdge : Addr) (e_InvalidNode : Addr) (e_LimitExceeded : Addr) (cWeb : Addr) : DS := uSeq (uFor (uR1 (uCons (uC (.int 4)) uNil)) (gNm 2) (U_law_0_b_0 e_UnknownNode e_UnknownEdge e_InvalidNode e_LimitExceeded cWeb)) (U_law_1 e_UnknownNode e_UnknownEdge e_InvalidNode e_LimitExceeded cWeb)
theorem ok_law {cWeb : Addr} {mc : Value} (B : Bt mg) (W : WebC K mg cWeb mc) (K__law_bag : Known P w K mg base "_law_bag" 1 ["_law_script"] (spBag K)) (K__law_raw : Known P w K mg base "_law_raw" 3 ["_law_bag_here", "_law_wide", "_law_many"] (spB K F__law_raw)) (K__law_web : Known P w K mg base "_law_web" 5 ["_law_raw_here"] (spN K (F__law_web cWeb))) (K__law_of : Known P w K mg base "_law_of" 2 ["_law_bag_here", "_law_things"] (spB K F__law_of)) (K_blocks : Known P w K mg base "blocks" 7 ["web"] (spN K (F_blocks cWeb))) (K__law_same : Known P w K mg base "_law_same" 4 ["_law_found", "_law_due"] (spN K (F__law_same 4))) (K_Web_empty : KnownS P w K mg base cWeb mc "empty" 5 [] (spN K (F_Web_empty cWeb))) (K_Web_complete : KnownCXD P w K mg base cWeb mc "complete" 5 ["cls", "count", "odd"] [.tup []] [] (spX K (F_Web_complete e_UnknownNode e_UnknownEdge e_InvalidNode e_LimitExceeded cWeb))) (K__law_blocks : Known P w K mg base "_law_blocks" 3 ["_law_raw_here"] (spN K F__law_blocks)) {f : Addr} {fd : FuncData} (F : Fun K "law" "law" s_law f fd) : FnOk P w K mg base CX0 8 f fd ["_law_script"] (spLaw K) := by
  refine law_text (k := 7) (N := ["_law_script", "_law_bag_here", "_law_turn", "_law_raw_here", "_law_made", "_law_again", "_law_found"]) (u := (U_law_0 e_UnknownNode e_UnknownEdge e_InvalidNode e_LimitExceeded cWeb)) rfl rfl F sc_law (K__law_bag.mono (by decide)) (fun cdv A outer s H E => fun h => ps_set (i := 1) sc_law.nd rfl (by first | exact Or.inl rfl | exact Or.inr rfl) h) (fun cdv A outer s H E hr => by obtain ⟨fa, fb, F1, hm1, hk1, hb1⟩ := K__law_bag; exact pe_call F1 (hr.mono (by decide)) rfl hm1 hk1 hb1 .nil pass0 (pa_cons (pv 0) pa_nil)) (fun b cdv A outer s H E hr => (dss_cons
    (ds_for (di_range1 B.range_ (da_cons d_int da_nil)) (dg_name (i := 2) sc_law.nd) (dss_cons
    (ds_set (i := 3) (PD.x (d_callB (i := 1) K__law_raw (hr.mono (by omega)) (da_cons (d_callB (i := 1) K__law_of (hr.mono (by omega)) (da_cons (d_lst (da_cons d_int (da_cons d_int da_nil))) da_nil)) (da_cons d_int da_nil)))) sc_law.nd) (dss_cons
    (ds_set (i := 4) (PD.x (d_call K__law_web (hr.mono (by omega)) (da_cons (d_var 3) da_nil))) sc_law.nd) (dss_one
    (ds_for (di_range1 B.range_ (da_cons d_int da_nil)) (dg_name (i := 5) sc_law.nd) (dss_cons
    (ds_own (i := 6) (PD.x (d_call K_blocks (hr.mono (by omega)) (da_cons (d_var 4) da_nil))) sc_law.nd) (dss_cons
    (ds_if (dt_not (dt_tru (d_callO (i := 6) K__law_same (hr.mono (by omega)) (da_cons (d_call K__law_blocks (hr.mono (by omega)) (da_cons (d_var 3) da_nil)) da_nil)))) (dss_one
    (ds_ret (PD.x d_bl))) dss_nil) (dss_one
    (ds_append (i := 6) (PD.x d_str)))))))))) (dss_one
    (ds_ret (PD.x (d_and (d_eq hr.units (d_call K_blocks (hr.mono (by omega)) (da_cons (d_sm0 K_Web_empty (hr.mono (by omega)) W.mgC W.rd) da_nil)) (d_lst da_nil)) (d_one (d_eq hr.units (d_call K_blocks (hr.mono (by omega)) (da_cons (d_cmethXq K_Web_complete.c (hr.mono (by omega)) W.mgC W.rd (da_cons d_int da_nil)) da_nil)) (d_lst (da_cons d_str da_nil)))))))))) ?hu
  unfold U_law_0
  walk_at "dm"
  refine for_nums 4 (fun _ e => S33 e) (fun Q q => ⟨4, rfl, by decide, by decide, q⟩) ⟨_, _, _, _, _, rfl⟩ ?_ ?_
  · rintro t ht x ⟨v2, v3, v4, v5, v6, rfl⟩
    generalize hT : ((t : Nat) : Int) = t
    unfold U_law_0_b_0
    walk_at "dm"
    have go : ∀ m e, RawOk m e → U_law_0_b_1 e_UnknownNode e_UnknownEdge e_InvalidNode e_LimitExceeded cWeb ⟨S33, fun r _ => r = .sh (.bl true), U_law_1 e_UnknownNode e_UnknownEdge e_InvalidNode e_LimitExceeded cWeb ⟨fun _ => False, fun r _ => r = .sh (.bl true), fun _ => False, fun _ => False⟩, S33⟩ [.un, .bag, .sh (.int t), .sh (rawD m e), v4, v5, v6] := by
      intro m e R0
      have W0 := R0.toWIn
      have W1 := win_srt W0
      have ml := W0.mlen
      have el := W1.elen
      unfold U_law_0_b_1
      walk_at "dm"
      refine ⟨m, e, rfl, W0, ?_⟩
      walk_at "dm"
      unfold U_law_0_b_2
      walk_at "dm"
      refine for_nums 2 (fun _ x => ∃ v5 v6, x = [.un, .bag, .sh (.int t), .sh (rawD m e), .sh (webD cWeb (srtM m) (srtE e)), v5, v6]) (fun Q q => ⟨2, rfl, by decide, by decide, q⟩) ⟨_, _, rfl⟩ ?_ ?_
      · rintro i hi x ⟨v5, v6, rfl⟩
        have bl : (blkL (srtM m) (srtE e)).length ≤ 24 := by
          unfold blkL
          rw [srtS_len, List.length_map]
          exact Nat.le_trans (grpL_len _ _ _) el
        unfold U_law_0_b_2_b_0
        walk_at "dm"
        refine blk_on W1 ?_
        walk_at "dm"
        unfold U_law_0_b_2_b_1 U_law_0_b_2_b_1_t_0
        walk_at "dm"
        refine ⟨_, _, rfl, m, e, rfl, R0, _, rfl, ?_, _, rfl, rfl, ?_⟩
        · refine simN_mk (n := 2) ?_ fun x hx => ?_
          · rw [List.length_map]
            exact Nat.le_trans bl (by decide)
          · obtain ⟨z, _, rfl⟩ := List.mem_map.mp hx
            rfl
        walk_at "dm"
        unfold U_law_0_b_2_b_2
        walk_at "dm"
        refine ⟨⟨_, _, rfl⟩, _, _, rfl, ?_, _, _, rfl⟩
        rw [List.length_map]
        omega
      · rintro x ⟨v5, v6, rfl⟩
        exact ⟨_, _, _, _, _, rfl⟩
    refine ⟨rfl, rfl, by decide, [.int 4, .int 9], .inl rfl, by decide, by decide, fun x hx => ?_⟩
    walk_at "dm"
    have hx : ∃ n : Nat, x = .int (n : Int) ∧ n ≤ 12 := by
      rcases List.mem_cons.mp hx with rfl | hx
      · exact ⟨4, rfl, by decide⟩
      · rw [List.mem_singleton.mp hx]
        exact ⟨9, rfl, by decide⟩
    obtain ⟨n, rfl, hn⟩ := hx
    exact ⟨n, 10, rfl, hn, by decide, fun m e h => go m e h⟩
  · rintro e ⟨v2, v3, v4, v5, v6, rfl⟩
    unfold U_law_1
    walk_at "dm"
    refine ⟨rfl, ?_⟩
    walk_at "dm"
    refine blk_on win_nil ?_
    rw [blk_nil]
    walk_at "dm"
    refine ⟨by decide, eq_self (n := 1) rfl (by decide) ?_⟩
    walk_at "dm"
    refine ⟨4, .tup [], [], rfl, .inr rfl, by decide, fun _ _ => ?_, fun _ p h => (by cases h), fun h => absurd h (by decide)⟩
    have W4 := win_srt (win_com (n := 4) (pts := []) (by decide))
    unfold webO
    walk_at "dm"
    refine blk_on W4 ?_
    rw [m4_eq, e4_eq] at W4 ⊢
    rw [blk_four W4]
    walk_at "dm"
    refine ⟨by decide, eq_self (n := 2) (by decide +kernel) (by decide) ?_⟩
    rfl
end
abbrev sE_UnknownNode : Stmt := inClass (top 9) 0
theorem scE_UnknownNode : FnScope ["self", "node"] ["self", "node"] (defScope sE_UnknownNode) := ⟨rfl, rfl, rfl, by decide +kernel, rfl, by decide +kernel, by decide +kernel⟩
abbrev sE_UnknownEdge : Stmt := inClass (top 10) 0
theorem scE_UnknownEdge : FnScope ["self", "name"] ["self", "name"] (defScope sE_UnknownEdge) := ⟨rfl, rfl, rfl, by decide +kernel, rfl, by decide +kernel, by decide +kernel⟩
abbrev sE_InvalidNode : Stmt := inClass (top 4) 0
theorem scE_InvalidNode : FnScope ["self", "node"] ["self", "node"] (defScope sE_InvalidNode) := ⟨rfl, rfl, rfl, by decide +kernel, rfl, by decide +kernel, by decide +kernel⟩
abbrev sE_LimitExceeded : Stmt := inClass (top 8) 0
theorem scE_LimitExceeded : FnScope ["self", "limit"] ["self", "limit"] (defScope sE_LimitExceeded) := ⟨rfl, rfl, rfl, by decide +kernel, rfl, by decide +kernel, by decide +kernel⟩
theorem all_mk {P : Program} {w : World} {K : PySem.W.Frag} {h : Heap} {mg : Str → Option Value} {fa : Addr} (X : K.In h) (G : h.Ns mainGlobals mg) (hfa : mg "law" = some (.ref fa))  {fC : Addr} {tc_MAX_NODES : Tok} {e_Missing e_ThreadError : Addr} {e_UnknownNode e_UnknownEdge e_InvalidNode e_LimitExceeded fI_UnknownNode fI_UnknownEdge fI_InvalidNode fI_LimitExceeded : Addr} {p21 : Addr} {r21 : List Value} {p24 D24 T24 : Addr} {r24 : List Value} {n24 : Nat} {o24 : Option Addr} {ss24 : Array (Option Value)} {tk_MAX_COMPLETE : Tok} {tk_NAMES : Tok} {f0 f1 f2 f3 f4 f5 f6 f7 f8 f9 f10 f11 f12 f13 f14 f15 f16 f17 f18 f19 f20 f21 f22 f23 f24 f25 f26 f27 f28 f29 : Addr} {od0 an0 od1 an1 od2 an2 od3 an3 od4 an4 od5 an5 od6 an6 od7 an7 od8 an8 od9 an9 od10 an10 od11 an11 od12 an12 od13 an13 od14 an14 od15 an15 od16 an16 od17 an17 od18 an18 od19 an19 od20 an20 od21 an21 od22 an22 od23 an23 od24 an24 od25 an25 od26 an26 od27 an27 od28 an28 od29 an29 : Option Addr} {sl0 sl1 sl2 sl3 sl4 sl5 sl6 sl7 sl8 sl9 sl10 sl11 sl12 sl13 sl14 sl15 sl16 sl17 sl18 sl19 sl20 sl21 sl22 sl23 sl24 sl25 sl26 sl27 sl28 sl29 : Array (Option Value)} {oc0 kV0 dc0 pm0 cd0 ct0 oc1 kV1 dc1 pm1 cd1 ct1 oc2 kV2 dc2 pm2 cd2 ct2 oc3 kV3 dc3 pm3 cd3 ct3 oc4 kV4 dc4 pm4 cd4 ct4 oc5 kV5 dc5 pm5 cd5 ct5 oc6 kV6 dc6 pm6 cd6 ct6 oc7 kV7 dc7 pm7 cd7 ct7 oc8 kV8 dc8 pm8 cd8 ct8 oc9 kV9 dc9 pm9 cd9 ct9 oc10 kV10 dc10 pm10 cd10 ct10 oc11 kV11 dc11 pm11 cd11 ct11 oc12 kV12 dc12 pm12 cd12 ct12 oc13 kV13 dc13 pm13 cd13 ct13 oc14 kV14 dc14 pm14 cd14 ct14 oc15 kV15 dc15 pm15 cd15 ct15 oc16 kV16 dc16 pm16 cd16 ct16 oc17 kV17 dc17 pm17 cd17 ct17 oc18 kV18 dc18 pm18 cd18 ct18 oc19 kV19 dc19 pm19 cd19 ct19 oc20 kV20 dc20 pm20 cd20 ct20 oc21 kV21 dc21 pm21 cd21 ct21 oc22 kV22 dc22 pm22 cd22 ct22 oc23 kV23 dc23 pm23 cd23 ct23 oc24 dc24 pm24 cd24 ct24 oc25 kV25 dc25 pm25 cd25 ct25 oc26 kV26 dc26 pm26 cd26 ct26 oc27 kV27 dc27 pm27 cd27 ct27 oc28 kV28 dc28 pm28 cd28 ct28 oc29 kV29 dc29 pm29 cd29 ct29 : Value} {nm_UnknownNode : Str} {q_UnknownNode : Str} {N_UnknownNode : Addr} {bs_UnknownNode : List Value} {sn_UnknownNode : List Str} {sub_UnknownNode : List Value} {ab_UnknownNode : Bool} {col_UnknownNode : Option Bool} {dd_UnknownNode : Option Addr} {m0_UnknownNode m1_UnknownNode m2_UnknownNode m3_UnknownNode m5_UnknownNode : Option Value} {ocE_UnknownNode kVE_UnknownNode dcE_UnknownNode pmE_UnknownNode cdE_UnknownNode ctE_UnknownNode : Value} {odE_UnknownNode anE_UnknownNode : Option Addr} {slE_UnknownNode : Array (Option Value)} {nm_UnknownEdge : Str} {q_UnknownEdge : Str} {N_UnknownEdge : Addr} {bs_UnknownEdge : List Value} {sn_UnknownEdge : List Str} {sub_UnknownEdge : List Value} {ab_UnknownEdge : Bool} {col_UnknownEdge : Option Bool} {dd_UnknownEdge : Option Addr} {m0_UnknownEdge m1_UnknownEdge m2_UnknownEdge m3_UnknownEdge m5_UnknownEdge : Option Value} {ocE_UnknownEdge kVE_UnknownEdge dcE_UnknownEdge pmE_UnknownEdge cdE_UnknownEdge ctE_UnknownEdge : Value} {odE_UnknownEdge anE_UnknownEdge : Option Addr} {slE_UnknownEdge : Array (Option Value)} {nm_InvalidNode : Str} {q_InvalidNode : Str} {N_InvalidNode : Addr} {bs_InvalidNode : List Value} {sn_InvalidNode : List Str} {sub_InvalidNode : List Value} {ab_InvalidNode : Bool} {col_InvalidNode : Option Bool} {dd_InvalidNode : Option Addr} {m0_InvalidNode m1_InvalidNode m2_InvalidNode m3_InvalidNode m5_InvalidNode : Option Value} {ocE_InvalidNode kVE_InvalidNode dcE_InvalidNode pmE_InvalidNode cdE_InvalidNode ctE_InvalidNode : Value} {odE_InvalidNode anE_InvalidNode : Option Addr} {slE_InvalidNode : Array (Option Value)} {nm_LimitExceeded : Str} {q_LimitExceeded : Str} {N_LimitExceeded : Addr} {bs_LimitExceeded : List Value} {sn_LimitExceeded : List Str} {sub_LimitExceeded : List Value} {ab_LimitExceeded : Bool} {col_LimitExceeded : Option Bool} {dd_LimitExceeded : Option Addr} {m0_LimitExceeded m1_LimitExceeded m2_LimitExceeded m3_LimitExceeded m5_LimitExceeded : Option Value} {ocE_LimitExceeded kVE_LimitExceeded dcE_LimitExceeded pmE_LimitExceeded cdE_LimitExceeded ctE_LimitExceeded : Value} {odE_LimitExceeded anE_LimitExceeded : Option Addr} {slE_LimitExceeded : Array (Option Value)}
    (aC : PySem.W.nsIn K mainGlobals "Web" = some (some (.ref fC))) (cpg : PySem.W.plainGet K fC Str.empty = true) (chd : PySem.W.hasDictIn K fC = true) (cpo : PySem.W.plainOver K fC = true) (csa : PySem.W.findIn K (.ref fC) "__setattr__" = some (some (.builtin "object.__setattr__")))
    (cn_node_marks : PySem.W.findIn K (.ref fC) "node_marks" = some none)
    (cn_edge_ends : PySem.W.findIn K (.ref fC) "edge_ends" = some none)
    (crd : PySem.W.readsIn K fC (.type "type") = true) (cga : PySem.W.specialIn K (.ref fC) "__getattribute__" = some (some (.builtin "type.__getattribute__")))
    (cc_MAX_NODES : PySem.W.findCls K (.ref fC) (.type "type") "MAX_NODES" = some (.val (.int 12 tc_MAX_NODES)))
    (x_UnknownNode : PySem.W.nsIn K mainGlobals "UnknownNode" = some (some (.ref e_UnknownNode))) (xL_UnknownNode : K.lookup e_UnknownNode = some (excClassObj nm_UnknownNode q_UnknownNode e_UnknownNode N_UnknownNode bs_UnknownNode [.ref e_Missing, .type "LookupError", .type "Exception", .type "BaseException", .type "object"] true sn_UnknownNode sub_UnknownNode ab_UnknownNode col_UnknownNode dd_UnknownNode m0_UnknownNode m1_UnknownNode m2_UnknownNode m3_UnknownNode m5_UnknownNode "LookupError.__new__"))
    (xs_UnknownNode : PySem.W.findIn K (.ref e_UnknownNode) "__setattr__" = some (some (.builtin "object.__setattr__"))) (xg_UnknownNode : PySem.W.findIn K (.ref e_UnknownNode) "__getattribute__" = some (some (.builtin "BaseException.__getattribute__"))) (xa_UnknownNode : PySem.W.findIn K (.ref e_UnknownNode) "__getattr__" = some none)
    (xb_UnknownNode : PySem.W.subIn K (.ref e_UnknownNode) (.type "BaseException") = some true) (xt_UnknownNode : PySem.W.typeIn K (.ref e_UnknownNode) = some (.type "type")) (xk_UnknownNode : PySem.W.keepIn K (.ref e_UnknownNode) = true) (xd_UnknownNode : PySem.W.hasDictIn K e_UnknownNode = true)
    (xi_UnknownNode : PySem.W.findIn K (.ref e_UnknownNode) "__init__" = some (some (.ref fI_UnknownNode))) (xj_UnknownNode : PySem.W.typeIn K (.ref fI_UnknownNode) = some (.type "function"))
    (xl_UnknownNode : K.lookup fI_UnknownNode = some ⟨ocE_UnknownNode, odE_UnknownNode, .func (PySem.W.fnOf "__init__" "UnknownNode.__init__" (defArgs sE_UnknownNode) (defBody sE_UnknownNode) (defScope sE_UnknownNode) .none kVE_UnknownNode dcE_UnknownNode pmE_UnknownNode anE_UnknownNode cdE_UnknownNode ctE_UnknownNode), slE_UnknownNode⟩) (xc_UnknownNode : PySem.W.codeIn K cdE_UnknownNode "UnknownNode.__init__" = true) (xn_UnknownNode : PySem.W.keepIn K (.ref fI_UnknownNode) = true)
    (xf_UnknownNode_code : PySem.W.findIn K (.ref e_UnknownNode) "code" = some none)
    (xf_UnknownNode_node : PySem.W.findIn K (.ref e_UnknownNode) "node" = some none)
    (x_UnknownEdge : PySem.W.nsIn K mainGlobals "UnknownEdge" = some (some (.ref e_UnknownEdge))) (xL_UnknownEdge : K.lookup e_UnknownEdge = some (excClassObj nm_UnknownEdge q_UnknownEdge e_UnknownEdge N_UnknownEdge bs_UnknownEdge [.ref e_Missing, .type "LookupError", .type "Exception", .type "BaseException", .type "object"] true sn_UnknownEdge sub_UnknownEdge ab_UnknownEdge col_UnknownEdge dd_UnknownEdge m0_UnknownEdge m1_UnknownEdge m2_UnknownEdge m3_UnknownEdge m5_UnknownEdge "LookupError.__new__"))
    (xs_UnknownEdge : PySem.W.findIn K (.ref e_UnknownEdge) "__setattr__" = some (some (.builtin "object.__setattr__"))) (xg_UnknownEdge : PySem.W.findIn K (.ref e_UnknownEdge) "__getattribute__" = some (some (.builtin "BaseException.__getattribute__"))) (xa_UnknownEdge : PySem.W.findIn K (.ref e_UnknownEdge) "__getattr__" = some none)
    (xb_UnknownEdge : PySem.W.subIn K (.ref e_UnknownEdge) (.type "BaseException") = some true) (xt_UnknownEdge : PySem.W.typeIn K (.ref e_UnknownEdge) = some (.type "type")) (xk_UnknownEdge : PySem.W.keepIn K (.ref e_UnknownEdge) = true) (xd_UnknownEdge : PySem.W.hasDictIn K e_UnknownEdge = true)
    (xi_UnknownEdge : PySem.W.findIn K (.ref e_UnknownEdge) "__init__" = some (some (.ref fI_UnknownEdge))) (xj_UnknownEdge : PySem.W.typeIn K (.ref fI_UnknownEdge) = some (.type "function"))
    (xl_UnknownEdge : K.lookup fI_UnknownEdge = some ⟨ocE_UnknownEdge, odE_UnknownEdge, .func (PySem.W.fnOf "__init__" "UnknownEdge.__init__" (defArgs sE_UnknownEdge) (defBody sE_UnknownEdge) (defScope sE_UnknownEdge) .none kVE_UnknownEdge dcE_UnknownEdge pmE_UnknownEdge anE_UnknownEdge cdE_UnknownEdge ctE_UnknownEdge), slE_UnknownEdge⟩) (xc_UnknownEdge : PySem.W.codeIn K cdE_UnknownEdge "UnknownEdge.__init__" = true) (xn_UnknownEdge : PySem.W.keepIn K (.ref fI_UnknownEdge) = true)
    (xf_UnknownEdge_code : PySem.W.findIn K (.ref e_UnknownEdge) "code" = some none)
    (xf_UnknownEdge_name : PySem.W.findIn K (.ref e_UnknownEdge) "name" = some none)
    (x_InvalidNode : PySem.W.nsIn K mainGlobals "InvalidNode" = some (some (.ref e_InvalidNode))) (xL_InvalidNode : K.lookup e_InvalidNode = some (excClassObj nm_InvalidNode q_InvalidNode e_InvalidNode N_InvalidNode bs_InvalidNode [.ref e_ThreadError, .type "ValueError", .type "Exception", .type "BaseException", .type "object"] true sn_InvalidNode sub_InvalidNode ab_InvalidNode col_InvalidNode dd_InvalidNode m0_InvalidNode m1_InvalidNode m2_InvalidNode m3_InvalidNode m5_InvalidNode "ValueError.__new__"))
    (xs_InvalidNode : PySem.W.findIn K (.ref e_InvalidNode) "__setattr__" = some (some (.builtin "object.__setattr__"))) (xg_InvalidNode : PySem.W.findIn K (.ref e_InvalidNode) "__getattribute__" = some (some (.builtin "BaseException.__getattribute__"))) (xa_InvalidNode : PySem.W.findIn K (.ref e_InvalidNode) "__getattr__" = some none)
    (xb_InvalidNode : PySem.W.subIn K (.ref e_InvalidNode) (.type "BaseException") = some true) (xt_InvalidNode : PySem.W.typeIn K (.ref e_InvalidNode) = some (.type "type")) (xk_InvalidNode : PySem.W.keepIn K (.ref e_InvalidNode) = true) (xd_InvalidNode : PySem.W.hasDictIn K e_InvalidNode = true)
    (xi_InvalidNode : PySem.W.findIn K (.ref e_InvalidNode) "__init__" = some (some (.ref fI_InvalidNode))) (xj_InvalidNode : PySem.W.typeIn K (.ref fI_InvalidNode) = some (.type "function"))
    (xl_InvalidNode : K.lookup fI_InvalidNode = some ⟨ocE_InvalidNode, odE_InvalidNode, .func (PySem.W.fnOf "__init__" "InvalidNode.__init__" (defArgs sE_InvalidNode) (defBody sE_InvalidNode) (defScope sE_InvalidNode) .none kVE_InvalidNode dcE_InvalidNode pmE_InvalidNode anE_InvalidNode cdE_InvalidNode ctE_InvalidNode), slE_InvalidNode⟩) (xc_InvalidNode : PySem.W.codeIn K cdE_InvalidNode "InvalidNode.__init__" = true) (xn_InvalidNode : PySem.W.keepIn K (.ref fI_InvalidNode) = true)
    (xf_InvalidNode_code : PySem.W.findIn K (.ref e_InvalidNode) "code" = some none)
    (xf_InvalidNode_node : PySem.W.findIn K (.ref e_InvalidNode) "node" = some none)
    (x_LimitExceeded : PySem.W.nsIn K mainGlobals "LimitExceeded" = some (some (.ref e_LimitExceeded))) (xL_LimitExceeded : K.lookup e_LimitExceeded = some (excClassObj nm_LimitExceeded q_LimitExceeded e_LimitExceeded N_LimitExceeded bs_LimitExceeded [.ref e_ThreadError, .type "ValueError", .type "Exception", .type "BaseException", .type "object"] true sn_LimitExceeded sub_LimitExceeded ab_LimitExceeded col_LimitExceeded dd_LimitExceeded m0_LimitExceeded m1_LimitExceeded m2_LimitExceeded m3_LimitExceeded m5_LimitExceeded "ValueError.__new__"))
    (xs_LimitExceeded : PySem.W.findIn K (.ref e_LimitExceeded) "__setattr__" = some (some (.builtin "object.__setattr__"))) (xg_LimitExceeded : PySem.W.findIn K (.ref e_LimitExceeded) "__getattribute__" = some (some (.builtin "BaseException.__getattribute__"))) (xa_LimitExceeded : PySem.W.findIn K (.ref e_LimitExceeded) "__getattr__" = some none)
    (xb_LimitExceeded : PySem.W.subIn K (.ref e_LimitExceeded) (.type "BaseException") = some true) (xt_LimitExceeded : PySem.W.typeIn K (.ref e_LimitExceeded) = some (.type "type")) (xk_LimitExceeded : PySem.W.keepIn K (.ref e_LimitExceeded) = true) (xd_LimitExceeded : PySem.W.hasDictIn K e_LimitExceeded = true)
    (xi_LimitExceeded : PySem.W.findIn K (.ref e_LimitExceeded) "__init__" = some (some (.ref fI_LimitExceeded))) (xj_LimitExceeded : PySem.W.typeIn K (.ref fI_LimitExceeded) = some (.type "function"))
    (xl_LimitExceeded : K.lookup fI_LimitExceeded = some ⟨ocE_LimitExceeded, odE_LimitExceeded, .func (PySem.W.fnOf "__init__" "LimitExceeded.__init__" (defArgs sE_LimitExceeded) (defBody sE_LimitExceeded) (defScope sE_LimitExceeded) .none kVE_LimitExceeded dcE_LimitExceeded pmE_LimitExceeded anE_LimitExceeded cdE_LimitExceeded ctE_LimitExceeded), slE_LimitExceeded⟩) (xc_LimitExceeded : PySem.W.codeIn K cdE_LimitExceeded "LimitExceeded.__init__" = true) (xn_LimitExceeded : PySem.W.keepIn K (.ref fI_LimitExceeded) = true)
    (xf_LimitExceeded_code : PySem.W.findIn K (.ref e_LimitExceeded) "code" = some none)
    (xf_LimitExceeded_limit : PySem.W.findIn K (.ref e_LimitExceeded) "limit" = some none)
    (a0 : PySem.W.nsIn K mainGlobals "_law_bag" = some (some (.ref f0)))
    (l0 : K.lookup f0 = some ⟨oc0, od0, .func (PySem.W.fnOf "_law_bag" "_law_bag" (defArgs s__law_bag) (defBody s__law_bag) (defScope s__law_bag) .none kV0 dc0 pm0 an0 cd0 ct0), sl0⟩) (c0 : PySem.W.codeIn K cd0 "_law_bag" = true) (k0 : PySem.W.keepIn K (.ref f0) = true)
    (a1 : PySem.W.nsIn K mainGlobals "_law_pull" = some (some (.ref f1)))
    (l1 : K.lookup f1 = some ⟨oc1, od1, .func (PySem.W.fnOf "_law_pull" "_law_pull" (defArgs s__law_pull) (defBody s__law_pull) (defScope s__law_pull) .none kV1 dc1 pm1 an1 cd1 ct1), sl1⟩) (c1 : PySem.W.codeIn K cd1 "_law_pull" = true) (k1 : PySem.W.keepIn K (.ref f1) = true)
    (a2 : PySem.W.nsIn K mainGlobals "_law_mixed" = some (some (.ref f2)))
    (l2 : K.lookup f2 = some ⟨oc2, od2, .func (PySem.W.fnOf "_law_mixed" "_law_mixed" (defArgs s__law_mixed) (defBody s__law_mixed) (defScope s__law_mixed) .none kV2 dc2 pm2 an2 cd2 ct2), sl2⟩) (c2 : PySem.W.codeIn K cd2 "_law_mixed" = true) (k2 : PySem.W.keepIn K (.ref f2) = true)
    (a3 : PySem.W.nsIn K mainGlobals "_law_letters" = some (some (.ref f3)))
    (l3 : K.lookup f3 = some ⟨oc3, od3, .func (PySem.W.fnOf "_law_letters" "_law_letters" (defArgs s__law_letters) (defBody s__law_letters) (defScope s__law_letters) .none kV3 dc3 pm3 an3 cd3 ct3), sl3⟩) (c3 : PySem.W.codeIn K cd3 "_law_letters" = true) (k3 : PySem.W.keepIn K (.ref f3) = true)
    (a4 : PySem.W.nsIn K mainGlobals "_law_raw" = some (some (.ref f4)))
    (l4 : K.lookup f4 = some ⟨oc4, od4, .func (PySem.W.fnOf "_law_raw" "_law_raw" (defArgs s__law_raw) (defBody s__law_raw) (defScope s__law_raw) .none kV4 dc4 pm4 an4 cd4 ct4), sl4⟩) (c4 : PySem.W.codeIn K cd4 "_law_raw" = true) (k4 : PySem.W.keepIn K (.ref f4) = true)
    (a5 : PySem.W.nsIn K mainGlobals "is_node_number" = some (some (.ref f5)))
    (l5 : K.lookup f5 = some ⟨oc5, od5, .func (PySem.W.fnOf "is_node_number" "is_node_number" (defArgs s_is_node_number) (defBody s_is_node_number) (defScope s_is_node_number) .none kV5 dc5 pm5 an5 cd5 ct5), sl5⟩) (c5 : PySem.W.codeIn K cd5 "is_node_number" = true) (k5 : PySem.W.keepIn K (.ref f5) = true)
    (a6 : PySem.W.nsIn K mainGlobals "is_edge_name" = some (some (.ref f6)))
    (l6 : K.lookup f6 = some ⟨oc6, od6, .func (PySem.W.fnOf "is_edge_name" "is_edge_name" (defArgs s_is_edge_name) (defBody s_is_edge_name) (defScope s_is_edge_name) .none kV6 dc6 pm6 an6 cd6 ct6), sl6⟩) (c6 : PySem.W.codeIn K cd6 "is_edge_name" = true) (k6 : PySem.W.keepIn K (.ref f6) = true)
    (a7 : PySem.W.nsIn K mainGlobals "check_parts" = some (some (.ref f7)))
    (l7 : K.lookup f7 = some ⟨oc7, od7, .func (PySem.W.fnOf "check_parts" "check_parts" (defArgs s_check_parts) (defBody s_check_parts) (defScope s_check_parts) .none kV7 dc7 pm7 an7 cd7 ct7), sl7⟩) (c7 : PySem.W.codeIn K cd7 "check_parts" = true) (k7 : PySem.W.keepIn K (.ref f7) = true)
    (mk8 : PySem.W.makesIn K fC = true) (a8 : PySem.W.findIn K (.ref fC) "__init__" = some (some (.ref f8))) (i8 : PySem.W.isFn K (.ref f8) = true) (kc8 : PySem.W.keepIn K (.ref fC) = true)
    (l8 : K.lookup f8 = some ⟨oc8, od8, .func (PySem.W.fnOf "__init__" "Web.__init__" (defArgs s_Web___init__) (defBody s_Web___init__) (defScope s_Web___init__) .none kV8 dc8 pm8 an8 cd8 ct8), sl8⟩) (c8 : PySem.W.codeIn K cd8 "Web.__init__" = true) (k8 : PySem.W.keepIn K (.ref f8) = true)
    (a9 : PySem.W.nsIn K mainGlobals "_law_web" = some (some (.ref f9)))
    (l9 : K.lookup f9 = some ⟨oc9, od9, .func (PySem.W.fnOf "_law_web" "_law_web" (defArgs s__law_web) (defBody s__law_web) (defScope s__law_web) .none kV9 dc9 pm9 an9 cd9 ct9), sl9⟩) (c9 : PySem.W.codeIn K cd9 "_law_web" = true) (k9 : PySem.W.keepIn K (.ref f9) = true)
    (a10 : PySem.W.nsIn K mainGlobals "_law_of" = some (some (.ref f10)))
    (l10 : K.lookup f10 = some ⟨oc10, od10, .func (PySem.W.fnOf "_law_of" "_law_of" (defArgs s__law_of) (defBody s__law_of) (defScope s__law_of) .none kV10 dc10 pm10 an10 cd10 ct10), sl10⟩) (c10 : PySem.W.codeIn K cd10 "_law_of" = true) (k10 : PySem.W.keepIn K (.ref f10) = true)
    (a11 : PySem.W.findIn K (.ref fC) "edges" = some (some (.ref f11))) (i11 : PySem.W.isFn K (.ref f11) = true)
    (l11 : K.lookup f11 = some ⟨oc11, od11, .func (PySem.W.fnOf "edges" "Web.edges" (defArgs s_Web_edges) (defBody s_Web_edges) (defScope s_Web_edges) .none kV11 dc11 pm11 an11 cd11 ct11), sl11⟩) (c11 : PySem.W.codeIn K cd11 "Web.edges" = true) (k11 : PySem.W.keepIn K (.ref f11) = true)
    (a12 : PySem.W.findIn K (.ref fC) "ends" = some (some (.ref f12))) (i12 : PySem.W.isFn K (.ref f12) = true)
    (l12 : K.lookup f12 = some ⟨oc12, od12, .func (PySem.W.fnOf "ends" "Web.ends" (defArgs s_Web_ends) (defBody s_Web_ends) (defScope s_Web_ends) .none kV12 dc12 pm12 an12 cd12 ct12), sl12⟩) (c12 : PySem.W.codeIn K cd12 "Web.ends" = true) (k12 : PySem.W.keepIn K (.ref f12) = true)
    (a13 : PySem.W.findIn K (.ref fC) "mark" = some (some (.ref f13))) (i13 : PySem.W.isFn K (.ref f13) = true)
    (l13 : K.lookup f13 = some ⟨oc13, od13, .func (PySem.W.fnOf "mark" "Web.mark" (defArgs s_Web_mark) (defBody s_Web_mark) (defScope s_Web_mark) .none kV13 dc13 pm13 an13 cd13 ct13), sl13⟩) (c13 : PySem.W.codeIn K cd13 "Web.mark" = true) (k13 : PySem.W.keepIn K (.ref f13) = true)
    (a14 : PySem.W.findIn K (.ref fC) "edges_of" = some (some (.ref f14))) (i14 : PySem.W.isFn K (.ref f14) = true)
    (l14 : K.lookup f14 = some ⟨oc14, od14, .func (PySem.W.fnOf "edges_of" "Web.edges_of" (defArgs s_Web_edges_of) (defBody s_Web_edges_of) (defScope s_Web_edges_of) .none kV14 dc14 pm14 an14 cd14 ct14), sl14⟩) (c14 : PySem.W.codeIn K cd14 "Web.edges_of" = true) (k14 : PySem.W.keepIn K (.ref f14) = true)
    (a15 : PySem.W.findIn K (.ref fC) "other_end" = some (some (.ref f15))) (i15 : PySem.W.isFn K (.ref f15) = true)
    (l15 : K.lookup f15 = some ⟨oc15, od15, .func (PySem.W.fnOf "other_end" "Web.other_end" (defArgs s_Web_other_end) (defBody s_Web_other_end) (defScope s_Web_other_end) .none kV15 dc15 pm15 an15 cd15 ct15), sl15⟩) (c15 : PySem.W.codeIn K cd15 "Web.other_end" = true) (k15 : PySem.W.keepIn K (.ref f15) = true)
    (a16 : PySem.W.nsIn K mainGlobals "reach_without" = some (some (.ref f16)))
    (l16 : K.lookup f16 = some ⟨oc16, od16, .func (PySem.W.fnOf "reach_without" "reach_without" (defArgs s_reach_without) (defBody s_reach_without) (defScope s_reach_without) .none kV16 dc16 pm16 an16 cd16 ct16), sl16⟩) (c16 : PySem.W.codeIn K cd16 "reach_without" = true) (k16 : PySem.W.keepIn K (.ref f16) = true)
    (a17 : PySem.W.findIn K (.ref fC) "nodes" = some (some (.ref f17))) (i17 : PySem.W.isFn K (.ref f17) = true)
    (l17 : K.lookup f17 = some ⟨oc17, od17, .func (PySem.W.fnOf "nodes" "Web.nodes" (defArgs s_Web_nodes) (defBody s_Web_nodes) (defScope s_Web_nodes) .none kV17 dc17 pm17 an17 cd17 ct17), sl17⟩) (c17 : PySem.W.codeIn K cd17 "Web.nodes" = true) (k17 : PySem.W.keepIn K (.ref f17) = true)
    (a18 : PySem.W.nsIn K mainGlobals "block_key" = some (some (.ref f18)))
    (l18 : K.lookup f18 = some ⟨oc18, od18, .func (PySem.W.fnOf "block_key" "block_key" (defArgs s_block_key) (defBody s_block_key) (defScope s_block_key) .none kV18 dc18 pm18 an18 cd18 ct18), sl18⟩) (c18 : PySem.W.codeIn K cd18 "block_key" = true) (k18 : PySem.W.keepIn K (.ref f18) = true)
    (a19 : PySem.W.nsIn K mainGlobals "blocks" = some (some (.ref f19)))
    (l19 : K.lookup f19 = some ⟨oc19, od19, .func (PySem.W.fnOf "blocks" "blocks" (defArgs s_blocks) (defBody s_blocks) (defScope s_blocks) .none kV19 dc19 pm19 an19 cd19 ct19), sl19⟩) (c19 : PySem.W.codeIn K cd19 "blocks" = true) (k19 : PySem.W.keepIn K (.ref f19) = true)
    (a20 : PySem.W.nsIn K mainGlobals "_law_same" = some (some (.ref f20)))
    (l20 : K.lookup f20 = some ⟨oc20, od20, .func (PySem.W.fnOf "_law_same" "_law_same" (defArgs s__law_same) (defBody s__law_same) (defScope s__law_same) .none kV20 dc20 pm20 an20 cd20 ct20), sl20⟩) (c20 : PySem.W.codeIn K cd20 "_law_same" = true) (k20 : PySem.W.keepIn K (.ref f20) = true)
    (a21 : PySem.W.findCls K (.ref fC) (.type "type") "empty" = some (.get (.builtin "staticmethod.__get__") (.ref p21) .none (.ref fC))) (r21_ : PySem.W.recIn K p21 "staticmethod" = some (.ref f21 :: r21))
    (l21 : K.lookup f21 = some ⟨oc21, od21, .func (PySem.W.fnOf "empty" "Web.empty" (defArgs s_Web_empty) (defBody s_Web_empty) (defScope s_Web_empty) .none kV21 dc21 pm21 an21 cd21 ct21), sl21⟩) (c21 : PySem.W.codeIn K cd21 "Web.empty" = true) (k21 : PySem.W.keepIn K (.ref f21) = true)
    (a22 : PySem.W.nsIn K mainGlobals "marks_of" = some (some (.ref f22)))
    (l22 : K.lookup f22 = some ⟨oc22, od22, .func (PySem.W.fnOf "marks_of" "marks_of" (defArgs s_marks_of) (defBody s_marks_of) (defScope s_marks_of) .none kV22 dc22 pm22 an22 cd22 ct22), sl22⟩) (c22 : PySem.W.codeIn K cd22 "marks_of" = true) (k22 : PySem.W.keepIn K (.ref f22) = true)
    (a23 : PySem.W.nsIn K mainGlobals "named_pairs" = some (some (.ref f23)))
    (l23 : K.lookup f23 = some ⟨oc23, od23, .func (PySem.W.fnOf "named_pairs" "named_pairs" (defArgs s_named_pairs) (defBody s_named_pairs) (defScope s_named_pairs) .none kV23 dc23 pm23 an23 cd23 ct23), sl23⟩) (c23 : PySem.W.codeIn K cd23 "named_pairs" = true) (k23 : PySem.W.keepIn K (.ref f23) = true)
    (a24 : PySem.W.findCls K (.ref fC) (.type "type") "complete" = some (.get (.builtin "classmethod.__get__") (.ref p24) .none (.ref fC))) (r24_ : PySem.W.recIn K p24 "classmethod" = some (.ref f24 :: r24)) (fi24 : PySem.W.fnIn K f24 = true)
    (l24 : K.lookup f24 = some ⟨oc24, od24, .func (PySem.W.fnOf "complete" "Web.complete" (defArgs s_Web_complete) (defBody s_Web_complete) (defScope s_Web_complete) .none (.ref D24) dc24 pm24 an24 cd24 ct24), sl24⟩) (c24 : PySem.W.codeIn K cd24 "Web.complete" = true) (k24 : PySem.W.keepIn K (.ref f24) = true)
    (d24 : PySem.W.nsIn K D24 "odd" = some (some (.ref T24))) (t24 : K.lookup T24 = some ⟨.type "tuple", o24, .seq #[] n24, ss24⟩)
    (a25 : PySem.W.nsIn K mainGlobals "_law_at" = some (some (.ref f25)))
    (l25 : K.lookup f25 = some ⟨oc25, od25, .func (PySem.W.fnOf "_law_at" "_law_at" (defArgs s__law_at) (defBody s__law_at) (defScope s__law_at) .none kV25 dc25 pm25 an25 cd25 ct25), sl25⟩) (c25 : PySem.W.codeIn K cd25 "_law_at" = true) (k25 : PySem.W.keepIn K (.ref f25) = true)
    (a26 : PySem.W.nsIn K mainGlobals "_law_there" = some (some (.ref f26)))
    (l26 : K.lookup f26 = some ⟨oc26, od26, .func (PySem.W.fnOf "_law_there" "_law_there" (defArgs s__law_there) (defBody s__law_there) (defScope s__law_there) .none kV26 dc26 pm26 an26 cd26 ct26), sl26⟩) (c26 : PySem.W.codeIn K cd26 "_law_there" = true) (k26 : PySem.W.keepIn K (.ref f26) = true)
    (a27 : PySem.W.nsIn K mainGlobals "_law_left_part" = some (some (.ref f27)))
    (l27 : K.lookup f27 = some ⟨oc27, od27, .func (PySem.W.fnOf "_law_left_part" "_law_left_part" (defArgs s__law_left_part) (defBody s__law_left_part) (defScope s__law_left_part) .none kV27 dc27 pm27 an27 cd27 ct27), sl27⟩) (c27 : PySem.W.codeIn K cd27 "_law_left_part" = true) (k27 : PySem.W.keepIn K (.ref f27) = true)
    (a28 : PySem.W.nsIn K mainGlobals "_law_blocks" = some (some (.ref f28)))
    (l28 : K.lookup f28 = some ⟨oc28, od28, .func (PySem.W.fnOf "_law_blocks" "_law_blocks" (defArgs s__law_blocks) (defBody s__law_blocks) (defScope s__law_blocks) .none kV28 dc28 pm28 an28 cd28 ct28), sl28⟩) (c28 : PySem.W.codeIn K cd28 "_law_blocks" = true) (k28 : PySem.W.keepIn K (.ref f28) = true)
    (a29 : PySem.W.nsIn K mainGlobals "law" = some (some (.ref f29)))
    (l29 : K.lookup f29 = some ⟨oc29, od29, .func (PySem.W.fnOf "law" "law" (defArgs s_law) (defBody s_law) (defScope s_law) .none kV29 dc29 pm29 an29 cd29 ct29), sl29⟩) (c29 : PySem.W.codeIn K cd29 "law" = true) (k29 : PySem.W.keepIn K (.ref f29) = true)
    (z_all : PySem.W.nsIn K mainGlobals "all" = some none)
    (z_bool : PySem.W.nsIn K mainGlobals "bool" = some none)
    (z_dict : PySem.W.nsIn K mainGlobals "dict" = some none)
    (z_enumerate : PySem.W.nsIn K mainGlobals "enumerate" = some none)
    (z_int : PySem.W.nsIn K mainGlobals "int" = some none)
    (z_isinstance : PySem.W.nsIn K mainGlobals "isinstance" = some none)
    (z_len : PySem.W.nsIn K mainGlobals "len" = some none)
    (z_list : PySem.W.nsIn K mainGlobals "list" = some none)
    (z_max : PySem.W.nsIn K mainGlobals "max" = some none)
    (z_min : PySem.W.nsIn K mainGlobals "min" = some none)
    (z_range : PySem.W.nsIn K mainGlobals "range" = some none)
    (z_sorted : PySem.W.nsIn K mainGlobals "sorted" = some none)
    (z_str : PySem.W.nsIn K mainGlobals "str" = some none)
    (z_tuple : PySem.W.nsIn K mainGlobals "tuple" = some none)
    (z_zip : PySem.W.nsIn K mainGlobals "zip" = some none)
    (g_MAX_COMPLETE : PySem.W.nsIn K mainGlobals "MAX_COMPLETE" = some (some (.int 7 tk_MAX_COMPLETE)))
    (g_NAMES : PySem.W.nsIn K mainGlobals "NAMES" = some (some (.str "abcdefghijklmnopqrstuvwx" tk_NAMES))) :
    ∃ fd : FuncData, (∀ (s : Shared) (v : Value), BindsTo s fd ⟨[v], []⟩ [("_law_script", v)]) ∧ ∀ base : Heap, K.In base → base.Ns mainGlobals mg → FnOk P w K mg base CX0 8 fa fd ["_law_script"] (spLaw K) := by
  have e := hfa.symm.trans (PySem.W.mg_of X G a29)
  cases e
  have B : Bt mg := ⟨PySem.W.mg_none_of X G z_all, PySem.W.mg_none_of X G z_bool, PySem.W.mg_none_of X G z_dict, PySem.W.mg_none_of X G z_enumerate, PySem.W.mg_none_of X G z_int, PySem.W.mg_none_of X G z_isinstance, PySem.W.mg_none_of X G z_len, PySem.W.mg_none_of X G z_list, PySem.W.mg_none_of X G z_max, PySem.W.mg_none_of X G z_min, PySem.W.mg_none_of X G z_range, PySem.W.mg_none_of X G z_sorted, PySem.W.mg_none_of X G z_str, PySem.W.mg_none_of X G z_tuple, PySem.W.mg_none_of X G z_zip, ⟨_, PySem.W.mg_of X G g_MAX_COMPLETE, ⟨_, rfl⟩⟩, ⟨_, PySem.W.mg_of X G g_NAMES, ⟨_, rfl⟩⟩⟩
  have W : WebC K mg fC (.type "type") := ⟨⟨cpg, chd, cpo, csa⟩, PySem.W.mg_of X G aC, cn_node_marks, cn_edge_ends, ⟨crd, cga⟩, ⟨_, cc_MAX_NODES, ⟨_, rfl⟩⟩⟩
  have T_UnknownNode : OexL K e_UnknownNode := ⟨⟨_, _, _, _, _, _, _, _, _, _, _, _, _, _, _, xL_UnknownNode, ⟨[e_Missing], rfl⟩⟩, xs_UnknownNode, xb_UnknownNode, xt_UnknownNode, xk_UnknownNode⟩
  have FE_UnknownNode : Fun K "__init__" "UnknownNode.__init__" sE_UnknownNode fI_UnknownNode (PySem.W.fnOf "__init__" "UnknownNode.__init__" (defArgs sE_UnknownNode) (defBody sE_UnknownNode) (defScope sE_UnknownNode) .none kVE_UnknownNode dcE_UnknownNode pmE_UnknownNode anE_UnknownNode cdE_UnknownNode ctE_UnknownNode) := fun_mkI xl_UnknownNode xc_UnknownNode xn_UnknownNode
  have E_UnknownNode : ∀ base : Heap, KnownEL P w K mg base "UnknownNode" e_UnknownNode 1 ["self", "node"] (fE2 "node" "code" "unknownnode") := fun base => ⟨_, _, fnE2L FE_UnknownNode scE_UnknownNode T_UnknownNode xf_UnknownNode_node xf_UnknownNode_code (by decide) rfl (.inl rfl) (.inl rfl) (by decide) (by decide) (fun _ _ _ _ _ _ => rfl) (fun _ _ _ _ _ _ => rfl), T_UnknownNode, xi_UnknownNode, xj_UnknownNode, FE_UnknownNode.binds (ps := ["self", "node"]) fun _ _ _ _ _ _ us hl => (match us, hl with | [_, _], _ => rfl), PySem.W.mg_of X G x_UnknownNode⟩
  have T_UnknownEdge : OexL K e_UnknownEdge := ⟨⟨_, _, _, _, _, _, _, _, _, _, _, _, _, _, _, xL_UnknownEdge, ⟨[e_Missing], rfl⟩⟩, xs_UnknownEdge, xb_UnknownEdge, xt_UnknownEdge, xk_UnknownEdge⟩
  have FE_UnknownEdge : Fun K "__init__" "UnknownEdge.__init__" sE_UnknownEdge fI_UnknownEdge (PySem.W.fnOf "__init__" "UnknownEdge.__init__" (defArgs sE_UnknownEdge) (defBody sE_UnknownEdge) (defScope sE_UnknownEdge) .none kVE_UnknownEdge dcE_UnknownEdge pmE_UnknownEdge anE_UnknownEdge cdE_UnknownEdge ctE_UnknownEdge) := fun_mkI xl_UnknownEdge xc_UnknownEdge xn_UnknownEdge
  have E_UnknownEdge : ∀ base : Heap, KnownEL P w K mg base "UnknownEdge" e_UnknownEdge 1 ["self", "name"] (fE2 "name" "code" "unknownedge") := fun base => ⟨_, _, fnE2L FE_UnknownEdge scE_UnknownEdge T_UnknownEdge xf_UnknownEdge_name xf_UnknownEdge_code (by decide) rfl (.inl rfl) (.inl rfl) (by decide) (by decide) (fun _ _ _ _ _ _ => rfl) (fun _ _ _ _ _ _ => rfl), T_UnknownEdge, xi_UnknownEdge, xj_UnknownEdge, FE_UnknownEdge.binds (ps := ["self", "name"]) fun _ _ _ _ _ _ us hl => (match us, hl with | [_, _], _ => rfl), PySem.W.mg_of X G x_UnknownEdge⟩
  have T_InvalidNode : OexC K e_InvalidNode := ⟨⟨_, _, _, _, _, _, _, _, _, _, _, _, _, _, _, xL_InvalidNode, rfl⟩, xs_InvalidNode, xb_InvalidNode, xt_InvalidNode, xk_InvalidNode⟩
  have FE_InvalidNode : Fun K "__init__" "InvalidNode.__init__" sE_InvalidNode fI_InvalidNode (PySem.W.fnOf "__init__" "InvalidNode.__init__" (defArgs sE_InvalidNode) (defBody sE_InvalidNode) (defScope sE_InvalidNode) .none kVE_InvalidNode dcE_InvalidNode pmE_InvalidNode anE_InvalidNode cdE_InvalidNode ctE_InvalidNode) := fun_mkI xl_InvalidNode xc_InvalidNode xn_InvalidNode
  have E_InvalidNode : ∀ base : Heap, KnownE P w K mg base "InvalidNode" e_InvalidNode 1 ["self", "node"] (fE2 "node" "code" "invalidnode") := fun base => ⟨_, _, fnE2 FE_InvalidNode scE_InvalidNode T_InvalidNode xf_InvalidNode_node xf_InvalidNode_code (by decide) rfl (.inl rfl) (.inl rfl) (by decide) (by decide) (fun _ _ _ _ _ _ => rfl) (fun _ _ _ _ _ _ => rfl), T_InvalidNode, xi_InvalidNode, xj_InvalidNode, FE_InvalidNode.binds (ps := ["self", "node"]) fun _ _ _ _ _ _ us hl => (match us, hl with | [_, _], _ => rfl), PySem.W.mg_of X G x_InvalidNode⟩
  have T_LimitExceeded : OexC K e_LimitExceeded := ⟨⟨_, _, _, _, _, _, _, _, _, _, _, _, _, _, _, xL_LimitExceeded, rfl⟩, xs_LimitExceeded, xb_LimitExceeded, xt_LimitExceeded, xk_LimitExceeded⟩
  have FE_LimitExceeded : Fun K "__init__" "LimitExceeded.__init__" sE_LimitExceeded fI_LimitExceeded (PySem.W.fnOf "__init__" "LimitExceeded.__init__" (defArgs sE_LimitExceeded) (defBody sE_LimitExceeded) (defScope sE_LimitExceeded) .none kVE_LimitExceeded dcE_LimitExceeded pmE_LimitExceeded anE_LimitExceeded cdE_LimitExceeded ctE_LimitExceeded) := fun_mkI xl_LimitExceeded xc_LimitExceeded xn_LimitExceeded
  have E_LimitExceeded : ∀ base : Heap, KnownE P w K mg base "LimitExceeded" e_LimitExceeded 1 ["self", "limit"] (fE2 "limit" "code" "limitexceeded") := fun base => ⟨_, _, fnE2 FE_LimitExceeded scE_LimitExceeded T_LimitExceeded xf_LimitExceeded_limit xf_LimitExceeded_code (by decide) rfl (.inl rfl) (.inl rfl) (by decide) (by decide) (fun _ _ _ _ _ _ => rfl) (fun _ _ _ _ _ _ => rfl), T_LimitExceeded, xi_LimitExceeded, xj_LimitExceeded, FE_LimitExceeded.binds (ps := ["self", "limit"]) fun _ _ _ _ _ _ us hl => (match us, hl with | [_, _], _ => rfl), PySem.W.mg_of X G x_LimitExceeded⟩
  have H0 : Here K mg "_law_bag" s__law_bag ["_law_script"] := here_mk X G a0 l0 c0 k0 (fun _ _ _ _ _ _ us hl => match us, hl with | [_], _ => rfl)
  have H1 : Here K mg "_law_pull" s__law_pull ["_law_bag_here", "_law_many"] := here_mk X G a1 l1 c1 k1 (fun _ _ _ _ _ _ us hl => match us, hl with | [_, _], _ => rfl)
  have H2 : Here K mg "_law_mixed" s__law_mixed ["_law_bag_here", "_law_things"] := here_mk X G a2 l2 c2 k2 (fun _ _ _ _ _ _ us hl => match us, hl with | [_, _], _ => rfl)
  have H3 : Here K mg "_law_letters" s__law_letters [] := here_mk X G a3 l3 c3 k3 (fun _ _ _ _ _ _ us hl => match us, hl with | [], _ => rfl)
  have H4 : Here K mg "_law_raw" s__law_raw ["_law_bag_here", "_law_wide", "_law_many"] := here_mk X G a4 l4 c4 k4 (fun _ _ _ _ _ _ us hl => match us, hl with | [_, _, _], _ => rfl)
  have H5 : Here K mg "is_node_number" s_is_node_number ["node"] := here_mk X G a5 l5 c5 k5 (fun _ _ _ _ _ _ us hl => match us, hl with | [_], _ => rfl)
  have H6 : Here K mg "is_edge_name" s_is_edge_name ["name"] := here_mk X G a6 l6 c6 k6 (fun _ _ _ _ _ _ us hl => match us, hl with | [_], _ => rfl)
  have H7 : Here K mg "check_parts" s_check_parts ["marks", "edges"] := here_mk X G a7 l7 c7 k7 (fun _ _ _ _ _ _ us hl => match us, hl with | [_, _], _ => rfl)
  have H8 : HereI K mg "Web" fC s_Web___init__ ["self", "marks", "edges"] := hereI_mk mk8 a8 i8 kc8 l8 c8 k8 (fun _ _ _ _ _ _ us hl => match us, hl with | [_, _, _], _ => rfl)
  have H9 : Here K mg "_law_web" s__law_web ["_law_raw_here"] := here_mk X G a9 l9 c9 k9 (fun _ _ _ _ _ _ us hl => match us, hl with | [_], _ => rfl)
  have H10 : Here K mg "_law_of" s__law_of ["_law_bag_here", "_law_things"] := here_mk X G a10 l10 c10 k10 (fun _ _ _ _ _ _ us hl => match us, hl with | [_, _], _ => rfl)
  have H11 : HereM K fC "edges" "Web.edges" s_Web_edges ["self"] := hereM_mk a11 i11 l11 c11 k11 (fun _ _ _ _ _ _ us hl => match us, hl with | [_], _ => rfl)
  have H12 : HereM K fC "ends" "Web.ends" s_Web_ends ["self", "edge"] := hereM_mk a12 i12 l12 c12 k12 (fun _ _ _ _ _ _ us hl => match us, hl with | [_, _], _ => rfl)
  have H13 : HereM K fC "mark" "Web.mark" s_Web_mark ["self", "node"] := hereM_mk a13 i13 l13 c13 k13 (fun _ _ _ _ _ _ us hl => match us, hl with | [_, _], _ => rfl)
  have H14 : HereM K fC "edges_of" "Web.edges_of" s_Web_edges_of ["self", "node"] := hereM_mk a14 i14 l14 c14 k14 (fun _ _ _ _ _ _ us hl => match us, hl with | [_, _], _ => rfl)
  have H15 : HereM K fC "other_end" "Web.other_end" s_Web_other_end ["self", "edge", "node"] := hereM_mk a15 i15 l15 c15 k15 (fun _ _ _ _ _ _ us hl => match us, hl with | [_, _, _], _ => rfl)
  have H16 : Here K mg "reach_without" s_reach_without ["web", "start", "gone"] := here_mk X G a16 l16 c16 k16 (fun _ _ _ _ _ _ us hl => match us, hl with | [_, _, _], _ => rfl)
  have H17 : HereM K fC "nodes" "Web.nodes" s_Web_nodes ["self"] := hereM_mk a17 i17 l17 c17 k17 (fun _ _ _ _ _ _ us hl => match us, hl with | [_], _ => rfl)
  have H18 : Here K mg "block_key" s_block_key ["web", "edge"] := here_mk X G a18 l18 c18 k18 (fun _ _ _ _ _ _ us hl => match us, hl with | [_, _], _ => rfl)
  have H19 : Here K mg "blocks" s_blocks ["web"] := here_mk X G a19 l19 c19 k19 (fun _ _ _ _ _ _ us hl => match us, hl with | [_], _ => rfl)
  have H20 : Here K mg "_law_same" s__law_same ["_law_found", "_law_due"] := here_mk X G a20 l20 c20 k20 (fun _ _ _ _ _ _ us hl => match us, hl with | [_, _], _ => rfl)
  have H21 : HereSm K fC (.type "type") "empty" "Web.empty" s_Web_empty [] := hereSm_mk a21 r21_ l21 c21 k21 (fun _ _ _ _ _ _ us hl => match us, hl with | [], _ => rfl)
  have H22 : Here K mg "marks_of" s_marks_of ["count", "odd"] := here_mk X G a22 l22 c22 k22 (fun _ _ _ _ _ _ us hl => match us, hl with | [_, _], _ => rfl)
  have H23 : Here K mg "named_pairs" s_named_pairs ["pairs"] := here_mk X G a23 l23 c23 k23 (fun _ _ _ _ _ _ us hl => match us, hl with | [_], _ => rfl)
  have H24 : HereCXD K fC (.type "type") "complete" "Web.complete" s_Web_complete ["cls", "count", "odd"] [.tup []] [] := hereCXD_mk a24 r24_ fi24 l24 c24 k24 d24 t24 (fun _ _ _ _ _ _ us ks h1 h2 => match us, ks, h1, h2 with | [_, _], [_], _, _ => ⟨_, _, _, _, _, _, rfl, rfl, rfl⟩) (by decide) (fun q hq => absurd hq List.not_mem_nil)
  have H25 : Here K mg "_law_at" s__law_at ["_law_raw_here", "_law_point"] := here_mk X G a25 l25 c25 k25 (fun _ _ _ _ _ _ us hl => match us, hl with | [_, _], _ => rfl)
  have H26 : Here K mg "_law_there" s__law_there ["_law_raw_here", "_law_letter", "_law_point"] := here_mk X G a26 l26 c26 k26 (fun _ _ _ _ _ _ us hl => match us, hl with | [_, _, _], _ => rfl)
  have H27 : Here K mg "_law_left_part" s__law_left_part ["_law_raw_here", "_law_letter", "_law_gone"] := here_mk X G a27 l27 c27 k27 (fun _ _ _ _ _ _ us hl => match us, hl with | [_, _, _], _ => rfl)
  have H28 : Here K mg "_law_blocks" s__law_blocks ["_law_raw_here"] := here_mk X G a28 l28 c28 k28 (fun _ _ _ _ _ _ us hl => match us, hl with | [_], _ => rfl)
  refine ⟨PySem.W.fnOf "law" "law" (defArgs s_law) (defBody s_law) (defScope s_law) .none kV29 dc29 pm29 an29 cd29 ct29, fun s v => .of_eq rfl, fun base _ _ => ?_⟩
  have K__law_bag : Known P w K mg base "_law_bag" 1 ["_law_script"] (spBag K) := ok__law_bag B  H0
  have K__law_pull : Known P w K mg base "_law_pull" 1 ["_law_bag_here", "_law_many"] (spB K fPull) := ok__law_pull B  H1
  have K__law_mixed : Known P w K mg base "_law_mixed" 2 ["_law_bag_here", "_law_things"] (spB K F__law_mixed) := ok__law_mixed B K__law_pull H2
  have K__law_letters : Known P w K mg base "_law_letters" 1 [] (spN K F__law_letters) := ok__law_letters B  H3
  have K__law_raw : Known P w K mg base "_law_raw" 3 ["_law_bag_here", "_law_wide", "_law_many"] (spB K F__law_raw) := ok__law_raw B K__law_pull K__law_mixed K__law_letters H4
  have K_is_node_number : Known P w K mg base "is_node_number" 1 ["node"] (spN K (F_is_node_number fC)) := ok_is_node_number B W  H5
  have K_is_edge_name : Known P w K mg base "is_edge_name" 1 ["name"] (spN K F_is_edge_name) := ok_is_edge_name B  H6
  have K_check_parts : Known P w K mg base "check_parts" 2 ["marks", "edges"] (spN K (F_check_parts fC)) := ok_check_parts B W K_is_node_number K_is_edge_name H7
  have K_Web___init__ : KnownI P w K mg base "Web" fC 3 ["self", "marks", "edges"] (spI K fC (F_Web___init__ fC)) := ok_Web___init__ B W K_check_parts H8
  have K__law_web : Known P w K mg base "_law_web" 5 ["_law_raw_here"] (spN K (F__law_web fC)) := ok__law_web B W K_Web___init__ H9
  have K__law_of : Known P w K mg base "_law_of" 2 ["_law_bag_here", "_law_things"] (spB K F__law_of) := ok__law_of B K__law_pull H10
  have K_Web_edges : KnownM P w K mg base fC "edges" 1 ["self"] (spN K (F_Web_edges fC)) := ok_Web_edges B W  H11
  have K_Web_ends : KnownMX P w K mg base fC "ends" 3 ["self", "edge"] (spX K (F_Web_ends e_UnknownNode e_UnknownEdge e_InvalidNode e_LimitExceeded fC)) := ok_Web_ends B (E_UnknownEdge _) W  H12
  have K_Web_mark : KnownMX P w K mg base fC "mark" 3 ["self", "node"] (spX K (F_Web_mark e_UnknownNode e_UnknownEdge e_InvalidNode e_LimitExceeded fC)) := ok_Web_mark B (E_UnknownNode _) W  H13
  have K_Web_edges_of : KnownMX P w K mg base fC "edges_of" 4 ["self", "node"] (spX K (F_Web_edges_of e_UnknownNode e_UnknownEdge e_InvalidNode e_LimitExceeded fC)) := ok_Web_edges_of B  W K_Web_mark H14
  have K_Web_other_end : KnownM P w K mg base fC "other_end" 1 ["self", "edge", "node"] (spN K (F_Web_other_end fC)) := ok_Web_other_end B W  H15
  have K_reach_without : Known P w K mg base "reach_without" 5 ["web", "start", "gone"] (spN K (F_reach_without fC)) := ok_reach_without B W K_Web_edges_of K_Web_other_end H16
  have K_Web_nodes : KnownM P w K mg base fC "nodes" 1 ["self"] (spN K (F_Web_nodes fC)) := ok_Web_nodes B W  H17
  have K_block_key : Known P w K mg base "block_key" 6 ["web", "edge"] (spN K (F_block_key fC)) := ok_block_key B W K_Web_ends K_reach_without K_Web_nodes H18
  have K_blocks : Known P w K mg base "blocks" 7 ["web"] (spN K (F_blocks fC)) := ok_blocks B W K_Web_edges K_block_key H19
  have K__law_same : Known P w K mg base "_law_same" 4 ["_law_found", "_law_due"] (spN K (F__law_same 4)) := ok__law_same B H20 _
  have K_Web_empty : KnownS P w K mg base fC (.type "type") "empty" 5 [] (spN K (F_Web_empty fC)) := ok_Web_empty B W K_Web___init__ H21
  have K_marks_of : KnownX P w K mg base "marks_of" 3 ["count", "odd"] (spX K (F_marks_of e_UnknownNode e_UnknownEdge e_InvalidNode e_LimitExceeded)) := ok_marks_of B (E_InvalidNode _)  H22
  have K_named_pairs : Known P w K mg base "named_pairs" 1 ["pairs"] (spN K F_named_pairs) := ok_named_pairs B  H23
  have K_Web_complete : KnownCXD P w K mg base fC (.type "type") "complete" 5 ["cls", "count", "odd"] [.tup []] [] (spX K (F_Web_complete e_UnknownNode e_UnknownEdge e_InvalidNode e_LimitExceeded fC)) := ok_Web_complete B (E_LimitExceeded _) W K_Web___init__ K_marks_of K_named_pairs H24
  have K__law_at : Known P w K mg base "_law_at" 1 ["_law_raw_here", "_law_point"] (spN K F__law_at) := ok__law_at B  H25
  have K__law_there : Known P w K mg base "_law_there" 1 ["_law_raw_here", "_law_letter", "_law_point"] (spN K F__law_there) := ok__law_there B  H26
  have K__law_left_part : Known P w K mg base "_law_left_part" 2 ["_law_raw_here", "_law_letter", "_law_gone"] (spN K F__law_left_part) := ok__law_left_part B K__law_at K__law_there H27
  have K__law_blocks : Known P w K mg base "_law_blocks" 3 ["_law_raw_here"] (spN K F__law_blocks) := ok__law_blocks B K__law_left_part H28
  exact ok_law B W K__law_bag K__law_raw K__law_web K__law_of K_blocks K__law_same K_Web_empty K_Web_complete K__law_blocks (fun_mk (st := s_law) l29 c29 k29)
theorem walk {l : PySem.W.OpenLaw} {q : Program} {loose : List Str} {XP : (Str → Option Value) → Heap → Prop} {YP : World → Heap → Prop} {d : DefRec} {K : Params → PySem.W.Frag} (hn : l.most = some 63) (hdf : d.params.defaults = [])
    (hY : ∀ (w : World) (h : Heap), YP w h → (K w.params).In h)
    (F : ∀ (w : World) (mg : Str → Option Value) (fa : Addr) (h : Heap), (K w.params).In h → h.Ns mainGlobals mg → mg d.name = some (.ref fa) →
      ∃ fd : FuncData, (∀ (s : Shared) (u : Value), BindsTo s fd ⟨[u], []⟩ [("_law_script", u)]) ∧ ∀ base : Heap, (K w.params).In base → base.Ns mainGlobals mg → FnOk l.prog w (K w.params) mg base CX0 8 fa fd ["_law_script"] (spLaw (K w.params))) :
    PySem.W.WalkO q loose XP YP l.row.toRowW d [] (fun f vs => PySem.call f vs) :=
  L2.walk_of (n := 63) (k := 8) (x := "_law_script") (CX := fun _ => CX0) (sp := fun w => spLaw (K w.params)) hn (by decide) hdf ⟨rfl, by decide, by decide⟩ hY F (fun _ _ a ns hl _ hS => ⟨a, ns, rfl, hS, hl, fun _ => rfl⟩) fun _ _ _ _ _ z => z
end Tm
open PySem PySem.W PyProof.Rows
set_option maxRecDepth 100000 in
set_option maxHeartbeats 0 in
theorem PySem.Challenge.cw_threadmark_k33_blocks_of_webs_holds : PySem.Challenge.rw_threadmark_k33_blocks_of_webs.Holds := by
  w_on; o_law; k_head; (case hw => w_witness2)
  k_fill
  refine Tm.walk (l := PySem.Challenge.rw_threadmark_k33_blocks_of_webs) rfl rfl (fun w h Y => PySem.W.kIn_of Y) ?F
  case F =>
    intro w mg fa h KX G hmg
    refine' Tm.all_mk KX G hmg ?aC ?cpg ?chd ?cpo ?csa ?cn_node_marks ?cn_edge_ends ?crd ?cga ?cc_MAX_NODES ?x_UnknownNode ?xL_UnknownNode ?xs_UnknownNode ?xg_UnknownNode ?xa_UnknownNode ?xb_UnknownNode ?xt_UnknownNode ?xk_UnknownNode ?xd_UnknownNode ?xi_UnknownNode ?xj_UnknownNode ?xl_UnknownNode ?xc_UnknownNode ?xn_UnknownNode ?xf_UnknownNode_code ?xf_UnknownNode_node ?x_UnknownEdge ?xL_UnknownEdge ?xs_UnknownEdge ?xg_UnknownEdge ?xa_UnknownEdge ?xb_UnknownEdge ?xt_UnknownEdge ?xk_UnknownEdge ?xd_UnknownEdge ?xi_UnknownEdge ?xj_UnknownEdge ?xl_UnknownEdge ?xc_UnknownEdge ?xn_UnknownEdge ?xf_UnknownEdge_code ?xf_UnknownEdge_name ?x_InvalidNode ?xL_InvalidNode ?xs_InvalidNode ?xg_InvalidNode ?xa_InvalidNode ?xb_InvalidNode ?xt_InvalidNode ?xk_InvalidNode ?xd_InvalidNode ?xi_InvalidNode ?xj_InvalidNode ?xl_InvalidNode ?xc_InvalidNode ?xn_InvalidNode ?xf_InvalidNode_code ?xf_InvalidNode_node ?x_LimitExceeded ?xL_LimitExceeded ?xs_LimitExceeded ?xg_LimitExceeded ?xa_LimitExceeded ?xb_LimitExceeded ?xt_LimitExceeded ?xk_LimitExceeded ?xd_LimitExceeded ?xi_LimitExceeded ?xj_LimitExceeded ?xl_LimitExceeded ?xc_LimitExceeded ?xn_LimitExceeded ?xf_LimitExceeded_code ?xf_LimitExceeded_limit ?a0 ?l0 ?c0 ?k0 ?a1 ?l1 ?c1 ?k1 ?a2 ?l2 ?c2 ?k2 ?a3 ?l3 ?c3 ?k3 ?a4 ?l4 ?c4 ?k4 ?a5 ?l5 ?c5 ?k5 ?a6 ?l6 ?c6 ?k6 ?a7 ?l7 ?c7 ?k7 ?mk8 ?a8 ?i8 ?kc8 ?l8 ?c8 ?k8 ?a9 ?l9 ?c9 ?k9 ?a10 ?l10 ?c10 ?k10 ?a11 ?i11 ?l11 ?c11 ?k11 ?a12 ?i12 ?l12 ?c12 ?k12 ?a13 ?i13 ?l13 ?c13 ?k13 ?a14 ?i14 ?l14 ?c14 ?k14 ?a15 ?i15 ?l15 ?c15 ?k15 ?a16 ?l16 ?c16 ?k16 ?a17 ?i17 ?l17 ?c17 ?k17 ?a18 ?l18 ?c18 ?k18 ?a19 ?l19 ?c19 ?k19 ?a20 ?l20 ?c20 ?k20 ?a21 ?r21_ ?l21 ?c21 ?k21 ?a22 ?l22 ?c22 ?k22 ?a23 ?l23 ?c23 ?k23 ?a24 ?r24_ ?fi24 ?l24 ?c24 ?k24 ?d24 ?t24 ?a25 ?l25 ?c25 ?k25 ?a26 ?l26 ?c26 ?k26 ?a27 ?l27 ?c27 ?k27 ?a28 ?l28 ?c28 ?k28 ?a29 ?l29 ?c29 ?k29 ?z_all ?z_bool ?z_dict ?z_enumerate ?z_int ?z_isinstance ?z_len ?z_list ?z_max ?z_min ?z_range ?z_sorted ?z_str ?z_tuple ?z_zip ?g_MAX_COMPLETE ?g_NAMES
    (case aC => k_is)
    (case cpg => k_is)
    (case chd => k_is)
    (case cpo => k_is)
    (case csa => k_is)
    (case cn_node_marks => k_is)
    (case cn_edge_ends => k_is)
    (case crd => k_is)
    (case cga => k_is)
    (case cc_MAX_NODES => k_is)
    (case x_UnknownNode => k_is)
    (case xL_UnknownNode => k_is)
    (case xs_UnknownNode => k_is)
    (case xg_UnknownNode => k_is)
    (case xa_UnknownNode => k_is)
    (case xb_UnknownNode => k_is)
    (case xt_UnknownNode => k_is)
    (case xk_UnknownNode => k_is)
    (case xd_UnknownNode => k_is)
    (case xi_UnknownNode => k_is)
    (case xj_UnknownNode => k_is)
    (case xl_UnknownNode => k_is)
    (case xc_UnknownNode => k_is)
    (case xn_UnknownNode => k_is)
    (case xf_UnknownNode_code => k_is)
    (case xf_UnknownNode_node => k_is)
    (case x_UnknownEdge => k_is)
    (case xL_UnknownEdge => k_is)
    (case xs_UnknownEdge => k_is)
    (case xg_UnknownEdge => k_is)
    (case xa_UnknownEdge => k_is)
    (case xb_UnknownEdge => k_is)
    (case xt_UnknownEdge => k_is)
    (case xk_UnknownEdge => k_is)
    (case xd_UnknownEdge => k_is)
    (case xi_UnknownEdge => k_is)
    (case xj_UnknownEdge => k_is)
    (case xl_UnknownEdge => k_is)
    (case xc_UnknownEdge => k_is)
    (case xn_UnknownEdge => k_is)
    (case xf_UnknownEdge_code => k_is)
    (case xf_UnknownEdge_name => k_is)
    (case x_InvalidNode => k_is)
    (case xL_InvalidNode => k_is)
    (case xs_InvalidNode => k_is)
    (case xg_InvalidNode => k_is)
    (case xa_InvalidNode => k_is)
    (case xb_InvalidNode => k_is)
    (case xt_InvalidNode => k_is)
    (case xk_InvalidNode => k_is)
    (case xd_InvalidNode => k_is)
    (case xi_InvalidNode => k_is)
    (case xj_InvalidNode => k_is)
    (case xl_InvalidNode => k_is)
    (case xc_InvalidNode => k_is)
    (case xn_InvalidNode => k_is)
    (case xf_InvalidNode_code => k_is)
    (case xf_InvalidNode_node => k_is)
    (case x_LimitExceeded => k_is)
    (case xL_LimitExceeded => k_is)
    (case xs_LimitExceeded => k_is)
    (case xg_LimitExceeded => k_is)
    (case xa_LimitExceeded => k_is)
    (case xb_LimitExceeded => k_is)
    (case xt_LimitExceeded => k_is)
    (case xk_LimitExceeded => k_is)
    (case xd_LimitExceeded => k_is)
    (case xi_LimitExceeded => k_is)
    (case xj_LimitExceeded => k_is)
    (case xl_LimitExceeded => k_is)
    (case xc_LimitExceeded => k_is)
    (case xn_LimitExceeded => k_is)
    (case xf_LimitExceeded_code => k_is)
    (case xf_LimitExceeded_limit => k_is)
    (case a0 => k_is)
    (case l0 => k_is)
    (case c0 => k_is)
    (case k0 => k_is)
    (case a1 => k_is)
    (case l1 => k_is)
    (case c1 => k_is)
    (case k1 => k_is)
    (case a2 => k_is)
    (case l2 => k_is)
    (case c2 => k_is)
    (case k2 => k_is)
    (case a3 => k_is)
    (case l3 => k_is)
    (case c3 => k_is)
    (case k3 => k_is)
    (case a4 => k_is)
    (case l4 => k_is)
    (case c4 => k_is)
    (case k4 => k_is)
    (case a5 => k_is)
    (case l5 => k_is)
    (case c5 => k_is)
    (case k5 => k_is)
    (case a6 => k_is)
    (case l6 => k_is)
    (case c6 => k_is)
    (case k6 => k_is)
    (case a7 => k_is)
    (case l7 => k_is)
    (case c7 => k_is)
    (case k7 => k_is)
    (case mk8 => k_is)
    (case a8 => k_is)
    (case i8 => k_is)
    (case kc8 => k_is)
    (case l8 => k_is)
    (case c8 => k_is)
    (case k8 => k_is)
    (case a9 => k_is)
    (case l9 => k_is)
    (case c9 => k_is)
    (case k9 => k_is)
    (case a10 => k_is)
    (case l10 => k_is)
    (case c10 => k_is)
    (case k10 => k_is)
    (case a11 => k_is)
    (case i11 => k_is)
    (case l11 => k_is)
    (case c11 => k_is)
    (case k11 => k_is)
    (case a12 => k_is)
    (case i12 => k_is)
    (case l12 => k_is)
    (case c12 => k_is)
    (case k12 => k_is)
    (case a13 => k_is)
    (case i13 => k_is)
    (case l13 => k_is)
    (case c13 => k_is)
    (case k13 => k_is)
    (case a14 => k_is)
    (case i14 => k_is)
    (case l14 => k_is)
    (case c14 => k_is)
    (case k14 => k_is)
    (case a15 => k_is)
    (case i15 => k_is)
    (case l15 => k_is)
    (case c15 => k_is)
    (case k15 => k_is)
    (case a16 => k_is)
    (case l16 => k_is)
    (case c16 => k_is)
    (case k16 => k_is)
    (case a17 => k_is)
    (case i17 => k_is)
    (case l17 => k_is)
    (case c17 => k_is)
    (case k17 => k_is)
    (case a18 => k_is)
    (case l18 => k_is)
    (case c18 => k_is)
    (case k18 => k_is)
    (case a19 => k_is)
    (case l19 => k_is)
    (case c19 => k_is)
    (case k19 => k_is)
    (case a20 => k_is)
    (case l20 => k_is)
    (case c20 => k_is)
    (case k20 => k_is)
    (case a21 => k_is)
    (case r21_ => k_is)
    (case l21 => k_is)
    (case c21 => k_is)
    (case k21 => k_is)
    (case a22 => k_is)
    (case l22 => k_is)
    (case c22 => k_is)
    (case k22 => k_is)
    (case a23 => k_is)
    (case l23 => k_is)
    (case c23 => k_is)
    (case k23 => k_is)
    (case a24 => k_is)
    (case r24_ => k_is)
    (case fi24 => k_is)
    (case l24 => k_is)
    (case c24 => k_is)
    (case k24 => k_is)
    (case d24 => k_is)
    (case t24 => k_is)
    (case a25 => k_is)
    (case l25 => k_is)
    (case c25 => k_is)
    (case k25 => k_is)
    (case a26 => k_is)
    (case l26 => k_is)
    (case c26 => k_is)
    (case k26 => k_is)
    (case a27 => k_is)
    (case l27 => k_is)
    (case c27 => k_is)
    (case k27 => k_is)
    (case a28 => k_is)
    (case l28 => k_is)
    (case c28 => k_is)
    (case k28 => k_is)
    (case a29 => k_is)
    (case l29 => k_is)
    (case c29 => k_is)
    (case k29 => k_is)
    (case z_all => k_is)
    (case z_bool => k_is)
    (case z_dict => k_is)
    (case z_enumerate => k_is)
    (case z_int => k_is)
    (case z_isinstance => k_is)
    (case z_len => k_is)
    (case z_list => k_is)
    (case z_max => k_is)
    (case z_min => k_is)
    (case z_range => k_is)
    (case z_sorted => k_is)
    (case z_str => k_is)
    (case z_tuple => k_is)
    (case z_zip => k_is)
    (case g_MAX_COMPLETE => k_is)
    (case g_NAMES => k_is)
