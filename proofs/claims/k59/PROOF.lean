import PyProof.Rows.All
import Wide.All
import OpenK.AllK
import Wide.FinOn
import HandS.ForMost
import HandS.Exc
import HandS.WordsExc
import HandS.Walk
import HandS.Wide
import HandS.Gcd
import HandS.Zip
import HandS.IsInst
import HandS.TupAny
import HandS.Defaults
import HandS.HeadHook4
import HandS.HeadWalk
import HandS.Head3
import HandS.Lambda
import PyProof.EqLayable
import KE.GoesEnum
import HandS.Rev
import HandS.Property
import HandS.MakeKwOnly
import HandS.Star
import HandS.HotCalls
import HandS.ExcIs
import HandS.TryOnly
import HandS.SortRule
import PySem.Challenge.RW_dealsformany_k59_equal_and_weighted_loss
set_option Elab.async false
set_option linter.all false
set_option maxRecDepth 100000
/-! Pv, part A: plain data, what stands for it on the abstract heap, what a frame owns. -/
namespace Pv
open PySem PySem.Spec PyProof.Rows L2

/-- plain data: what a value of the program stands for -/
inductive D where
  | non | bl (b : Bool) | int (i : Int) | str (s : Str)
  | tup (ds : List D) | lst (ds : List D)
  | scr (ns : List Int)
  | obj (c : Str) (ns : List Str) (ds : List D)
  | exc (c : Str) (ds : List D)

/-- the classes of the text, by name -/
structure Tb where
  K : PySem.W.Frag
  cls : Str → Option Addr
  /-- an exception class's fields -/
  xf : Str → List Str := fun _ => []
  /-- the exceptions that are handled: class and own dict -/
  xa : Addr → Option (Str × Option Addr) := fun _ => none
/-- the tables of code objects that the defs with lambdas have, each with its lambda's full name -/
class TabC where
  tl : List (Addr × Str)
/-- what stands stays; a table of code objects stays one -/
structure Same (H H' : Hp) : Prop where
  at_ : ∀ {b : Addr} {o : HO}, H b = some o → (∀ ps, o ≠ .tbl ps) → H' b = some o
  tb : ∀ {b : Addr} {ps : Array Value}, H b = some (.tbl ps) → ∃ ps', H' b = some (.tbl ps')
theorem Same.refl (H : Hp) : Same H H := ⟨fun h _ => h, fun h => ⟨_, h⟩⟩
theorem Same.trans {H H1 H2 : Hp} (a : Same H H1) (b : Same H1 H2) : Same H H2 := ⟨fun h n => b.at_ (a.at_ h n) n, fun h => let ⟨_, q⟩ := a.tb h; b.tb q⟩
theorem Same.of2 {H H' : Hp} (s : ∀ b o, H b = some o → H' b = some o) : Same H H' := ⟨fun h _ => s _ _ h, fun h => ⟨_, s _ _ h⟩⟩
theorem Same.some {H H' : Hp} (s : Same H H') {a : Addr} (h : H a ≠ none) : H' a ≠ none := by
  cases e : H a with
  | none => exact absurd e h
  | some o =>
    by_cases q : ∃ ps, o = .tbl ps
    · obtain ⟨ps, rfl⟩ := q
      obtain ⟨ps', z⟩ := s.tb e
      rw [z]; simp
    · rw [s.at_ e fun ps z => q ⟨ps, z⟩]; simp
theorem Same.free {H H' : Hp} (e : Same H H') {l : Addr} (h : H' l = none) : H l = none := by
  cases q : H l with
  | none => rfl
  | some o => exact absurd h (e.some (by rw [q]; simp))
theorem Same.lst {H H' : Hp} (s : Same H H') {a : Addr} {vs : List V} (h : H a = Option.some (.lst vs)) : H' a = Option.some (.lst vs) := s.at_ h fun _ z => by cases z
theorem Same.tup {H H' : Hp} (s : Same H H') {a : Addr} {vs : List V} (h : H a = Option.some (.tup vs)) : H' a = Option.some (.tup vs) := s.at_ h fun _ z => by cases z
theorem Same.ins {H H' : Hp} (s : Same H H') {a C dx : Addr} {fs : List (Str × V)} (h : H a = Option.some (.ins C dx fs)) : H' a = Option.some (.ins C dx fs) := s.at_ h fun _ z => by cases z
theorem Same.xd {H H' : Hp} (s : Same H H') {a : Addr} {fs : List (Str × V)} (h : H a = Option.some (.xd fs)) : H' a = Option.some (.xd fs) := s.at_ h fun _ z => by cases z
theorem Same.seq {K : PySem.W.Frag} {H H' : Hp} {a : Addr} {xs : List V} (e : Same H H') (h : SqL K H a xs) : SqL K H' a xs := by
  rcases h with (h | ⟨o, h⟩) | h
  · exact .inl (.inl (e.lst h))
  · exact .inl (.inr ⟨o, e.at_ h fun _ z => by cases z⟩)
  · exact .inr h
section
variable [TabC]
/-- the heap goes on: besides, a table that tells codes rightly goes on to do so -/
structure Ev (H H' : Hp) : Prop extends Same H H' where
  ta : LamX.Tabs TabC.tl H → LamX.Tabs TabC.tl H'
theorem Ev.refl (H : Hp) : Ev H H := ⟨Same.refl H, fun h => h⟩
theorem Ev.trans {H H1 H2 : Hp} (a : Ev H H1) (b : Ev H1 H2) : Ev H H2 := ⟨a.toSame.trans b.toSame, fun h => b.ta (a.ta h)⟩
theorem Ev.of2 {H H' : Hp} (s : ∀ b o, H b = some o → H' b = some o) : Ev H H' := ⟨Same.of2 s, fun h => h.ext s⟩
theorem Ev.free {H H' : Hp} (e : Ev H H') {l : Addr} (h : H' l = none) : H l = none := e.toSame.free h
theorem Ev.some {H H' : Hp} (s : Ev H H') {a : Addr} (h : H a ≠ none) : H' a ≠ none := s.toSame.some h
theorem Ev.lst {H H' : Hp} (s : Ev H H') {a : Addr} {vs : List V} (h : H a = Option.some (.lst vs)) : H' a = Option.some (.lst vs) := s.toSame.lst h
theorem Ev.tup {H H' : Hp} (s : Ev H H') {a : Addr} {vs : List V} (h : H a = Option.some (.tup vs)) : H' a = Option.some (.tup vs) := s.toSame.tup h
theorem Ev.ins {H H' : Hp} (s : Ev H H') {a C dx : Addr} {fs : List (Str × V)} (h : H a = Option.some (.ins C dx fs)) : H' a = Option.some (.ins C dx fs) := s.toSame.ins h
theorem Ev.seq {K : PySem.W.Frag} {H H' : Hp} {a : Addr} {xs : List V} (e : Ev H H') (h : SqL K H a xs) : SqL K H' a xs := e.toSame.seq h
theorem same_upd {p : Addr} {o : HO} {H : Hp} (h : H p = none) : Ev H (upd H p o) := Ev.of2 fun b x e => by
  rw [upd_ne (ne_of_none e h)]
  exact e

end

mutual
inductive Rep (T : Tb) (H : Hp) : V → D → Prop
  | non : Rep T H .non .non
  | bl (b : Bool) : Rep T H (.bl b) (.bl b)
  | int (i : Int) : Rep T H (.int i) (.int i)
  | str (s : Str) : Rep T H (.str s) (.str s)
  | tup {a vs ds} : SqT T.K H a vs → RepA T H vs ds → Rep T H (.ref a) (.tup ds)
  | lst {a vs ds} : H a = some (.lst vs) → RepA T H vs ds → Rep T H (.ref a) (.lst ds)
  | scr {a ns} : SqL T.K H a (ns.map V.int) → Rep T H (.ref a) (.scr ns)
  | obj {a C dx fs c ns ds} : H a = some (.ins C dx fs) → T.cls c = some C → fs.map (·.1) = ns → RepA T H (fs.map (·.2)) ds → Rep T H (.ref a) (.obj c ns ds)
  | exc0 {a c} : T.xa a = some (c, none) → Rep T H (.ref a) (.exc c [])
  | exc1 {a c d fs ds} : T.xa a = some (c, some d) → H d = some (.xd fs) → fs.map (·.1) = T.xf c → RepA T H (fs.map (·.2)) ds → ds ≠ [] → Rep T H (.ref a) (.exc c ds)
inductive RepA (T : Tb) (H : Hp) : List V → List D → Prop
  | nil : RepA T H [] []
  | cons {v d vs ds} : Rep T H v d → RepA T H vs ds → RepA T H (v :: vs) (d :: ds)
end

theorem seqT {K : PySem.W.Frag} {H H' : Hp} {a : Addr} {xs : List V} (e : Same H H') (h : SqT K H a xs) : SqT K H' a xs := by
  rcases h with (h | ⟨o, h⟩) | h
  · exact .inl (.inl (e.tup h))
  · exact .inl (.inr ⟨o, e.at_ h fun _ z => by cases z⟩)
  · exact .inr h

section
variable {T : Tb} {H H' : Hp}
mutual
theorem Rep.mono (e : Same H H') : ∀ {v : V} {d : D}, Rep T H v d → Rep T H' v d
  | _, _, .non => .non
  | _, _, .bl b => .bl b
  | _, _, .int i => .int i
  | _, _, .str s => .str s
  | _, _, .tup h r => .tup (seqT e h) (RepA.mono e r)
  | _, _, .lst h r => .lst (e.lst h) (RepA.mono e r)
  | _, _, .scr h => .scr (e.seq h)
  | _, _, .obj h c n r => .obj (e.ins h) c n (RepA.mono e r)
  | _, _, .exc0 h => .exc0 h
  | _, _, .exc1 h d n r k => .exc1 h (e.xd d) n (RepA.mono e r) k
theorem RepA.mono (e : Same H H') : ∀ {vs : List V} {ds : List D}, RepA T H vs ds → RepA T H' vs ds
  | _, _, .nil => .nil
  | _, _, .cons r t => .cons (Rep.mono e r) (RepA.mono e t)
end
theorem RepA.length : ∀ {vs : List V} {ds : List D}, RepA T H vs ds → vs.length = ds.length
  | _, _, .nil => rfl
  | _, _, .cons _ t => by simp [RepA.length t]
theorem RepA.get : ∀ {vs : List V} {ds : List D} {i : Nat} {d : D}, RepA T H vs ds → ds[i]? = some d → ∃ v, vs[i]? = some v ∧ Rep T H v d
  | _, _, _, _, .nil, e => by simp at e
  | _, _, 0, _, .cons r _, e => by simp at e; subst e; exact ⟨_, rfl, r⟩
  | _, _, i + 1, _, .cons _ t, e => by
    obtain ⟨v, h1, h2⟩ := RepA.get (i := i) t (by simpa using e)
    exact ⟨v, by simpa using h1, h2⟩
theorem RepA.append : ∀ {vs : List V} {ds : List D} {us : List V} {es : List D}, RepA T H vs ds → RepA T H us es → RepA T H (vs ++ us) (ds ++ es)
  | _, _, _, _, .nil, q => q
  | _, _, _, _, .cons r t, q => .cons r (RepA.append t q)
theorem RepA.take : ∀ {vs : List V} {ds : List D} (n : Nat), RepA T H vs ds → RepA T H (vs.take n) (ds.take n)
  | _, _, 0, _ => .nil
  | _, _, _ + 1, .nil => .nil
  | _, _, n + 1, .cons r t => .cons r (RepA.take n t)
theorem RepA.drop : ∀ {vs : List V} {ds : List D} (n : Nat), RepA T H vs ds → RepA T H (vs.drop n) (ds.drop n)
  | _, _, 0, r => r
  | _, _, _ + 1, .nil => .nil
  | _, _, n + 1, .cons _ t => RepA.drop n t
theorem RepA.ints : ∀ {ns : List Int} {vs : List V}, RepA T H vs (ns.map D.int) → vs = ns.map V.int
  | [], _, .nil => rfl
  | _ :: ns, _, .cons (.int i) t => by rw [List.map_cons, RepA.ints t]
theorem RepA.of_ints : ∀ (ns : List Int), RepA T H (ns.map V.int) (ns.map D.int)
  | [] => .nil
  | n :: ns => .cons (.int n) (RepA.of_ints ns)
theorem RepA.rev {vs : List V} {ds : List D} (h : RepA T H vs ds) : RepA T H vs.reverse ds.reverse := by
  induction vs generalizing ds with
  | nil => cases h; exact .nil
  | cons v vs ih =>
    cases h with
    | cons r t =>
      rw [List.reverse_cons, List.reverse_cons]
      exact (ih t).append (.cons r .nil)
theorem RepA.rep {vs : List V} {ds : List D} (h : RepA T H vs ds) : ∀ n : Nat, RepA T H (List.replicate n vs).flatten (List.replicate n ds).flatten
  | 0 => .nil
  | n + 1 => by
    rw [List.replicate_succ, List.flatten_cons, List.replicate_succ, List.flatten_cons]
    exact h.append (RepA.rep h n)
theorem RepA.set : ∀ {vs : List V} {ds : List D} {v : V} {d : D} (i : Nat), RepA T H vs ds → Rep T H v d → RepA T H (vs.set i v) (ds.set i d)
  | _, _, _, _, _, .nil, _ => .nil
  | _, _, _, _, 0, .cons _ t, q => .cons q t
  | _, _, _, _, i + 1, .cons r t, q => .cons r (RepA.set i t q)
end

/-! ### what a frame owns -/
/-- how a value is held: fz: it stands still; ol t: a list of one's own, its items held as t; ot: a new tuple; oi: an instance of one's own -/
inductive OT where
  | fz | ol (t : OT) | ot (ts : List OT) | oi (ns : List Str) (ts : List OT)

mutual
inductive Own (T : Tb) (A H : Hp) : OT → List Addr → V → D → Prop
  | fz {v d} : Rep T A v d → Own T A H .fz [] v d
  | ol {t f p vs ds} : H p = some (.lst vs) → OwnL T A H (List.replicate vs.length t) f vs ds → Own T A H (.ol t) (p :: f) (.ref p) (.lst ds)
  | ot {ts f p vs ds} : H p = some (.tup vs) → OwnL T A H ts f vs ds → Own T A H (.ot ts) (p :: f) (.ref p) (.tup ds)
  | oi {ns ts f p C dx fs c ds} : H p = some (.ins C dx fs) → T.cls c = some C → fs.map (·.1) = ns → OwnL T A H ts f (fs.map (·.2)) ds → Own T A H (.oi ns ts) (p :: f) (.ref p) (.obj c ns ds)
inductive OwnL (T : Tb) (A H : Hp) : List OT → List Addr → List V → List D → Prop
  | nil : OwnL T A H [] [] [] []
  | cons {t ts f g v vs d ds} : Own T A H t f v d → OwnL T A H ts g vs ds → OwnL T A H (t :: ts) (f ++ g) (v :: vs) (d :: ds)
end
section
variable {T : Tb} {A A' H H' B : Hp}
mutual
theorem Own.mono (ea : Same A A') : ∀ {t : OT} {f : List Addr} {v : V} {d : D}, (∀ a ∈ f, ∀ o, (∀ ps, o ≠ .tbl ps) → H a = some o → H' a = some o) → Own T A H t f v d → Own T A' H' t f v d
  | _, _, _, _, _, .fz r => .fz (r.mono ea)
  | _, _, _, _, k, .ol h r => .ol (k _ List.mem_cons_self _ (fun _ z => by cases z) h) (OwnL.mono ea (fun a ha => k a (List.mem_cons_of_mem _ ha)) r)
  | _, _, _, _, k, .ot h r => .ot (k _ List.mem_cons_self _ (fun _ z => by cases z) h) (OwnL.mono ea (fun a ha => k a (List.mem_cons_of_mem _ ha)) r)
  | _, _, _, _, k, .oi h c n r => .oi (k _ List.mem_cons_self _ (fun _ z => by cases z) h) c n (OwnL.mono ea (fun a ha => k a (List.mem_cons_of_mem _ ha)) r)
theorem OwnL.mono (ea : Same A A') : ∀ {ts : List OT} {f : List Addr} {vs : List V} {ds : List D}, (∀ a ∈ f, ∀ o, (∀ ps, o ≠ .tbl ps) → H a = some o → H' a = some o) → OwnL T A H ts f vs ds → OwnL T A' H' ts f vs ds
  | _, _, _, _, _, .nil => .nil
  | _, _, _, _, k, .cons r q => .cons (Own.mono ea (fun a ha => k a (List.mem_append_left _ ha)) r) (OwnL.mono ea (fun a ha => k a (List.mem_append_right _ ha)) q)
end
mutual
/-- what is owned may stand still from now on -/
theorem Own.rep (ea : Same A B) : ∀ {t : OT} {f : List Addr} {v : V} {d : D}, (∀ a ∈ f, ∀ o, H a = some o → B a = some o) → Own T A H t f v d → Rep T B v d
  | _, _, _, _, _, .fz r => r.mono ea
  | _, _, _, _, k, .ol h r => .lst (k _ List.mem_cons_self _ h) (OwnL.rep ea (fun a ha => k a (List.mem_cons_of_mem _ ha)) r)
  | _, _, _, _, k, .ot h r => .tup (.of (k _ List.mem_cons_self _ h)) (OwnL.rep ea (fun a ha => k a (List.mem_cons_of_mem _ ha)) r)
  | _, _, _, _, k, .oi h c n r => .obj (k _ List.mem_cons_self _ h) c n (OwnL.rep ea (fun a ha => k a (List.mem_cons_of_mem _ ha)) r)
theorem OwnL.rep (ea : Same A B) : ∀ {ts : List OT} {f : List Addr} {vs : List V} {ds : List D}, (∀ a ∈ f, ∀ o, H a = some o → B a = some o) → OwnL T A H ts f vs ds → RepA T B vs ds
  | _, _, _, _, _, .nil => .nil
  | _, _, _, _, k, .cons r q => .cons (Own.rep ea (fun a ha => k a (List.mem_append_left _ ha)) r) (OwnL.rep ea (fun a ha => k a (List.mem_append_right _ ha)) q)
end
mutual
theorem Own.dom : ∀ {t : OT} {f : List Addr} {v : V} {d : D}, Own T A H t f v d → ∀ a ∈ f, H a ≠ none
  | _, _, _, _, .fz _, a, ha => by cases ha
  | _, _, _, _, .ol h r, a, ha => (List.mem_cons.mp ha).elim (fun e => by rw [e, h]; simp) (OwnL.dom r a)
  | _, _, _, _, .ot h r, a, ha => (List.mem_cons.mp ha).elim (fun e => by rw [e, h]; simp) (OwnL.dom r a)
  | _, _, _, _, .oi h _ _ r, a, ha => (List.mem_cons.mp ha).elim (fun e => by rw [e, h]; simp) (OwnL.dom r a)
theorem OwnL.dom : ∀ {ts : List OT} {f : List Addr} {vs : List V} {ds : List D}, OwnL T A H ts f vs ds → ∀ a ∈ f, H a ≠ none
  | _, _, _, _, .nil, a, ha => by cases ha
  | _, _, _, _, .cons r q, a, ha => (List.mem_append.mp ha).elim (Own.dom r a) (OwnL.dom q a)
end
theorem OwnL.length : ∀ {ts : List OT} {f : List Addr} {vs : List V} {ds : List D}, OwnL T A H ts f vs ds → vs.length = ds.length ∧ ts.length = ds.length
  | _, _, _, _, .nil => ⟨rfl, rfl⟩
  | _, _, _, _, .cons _ q => by simp [OwnL.length q]
/-- items that stand still are held so, with nothing owned -/
theorem OwnL.of_rep : ∀ {vs : List V} {ds : List D}, RepA T A vs ds → OwnL T A H (List.replicate vs.length .fz) [] vs ds
  | _, _, .nil => .nil
  | _, _, .cons r t => OwnL.cons (f := []) (.fz r) (OwnL.of_rep t)
theorem OwnL.to_rep : ∀ {n : Nat} {f : List Addr} {vs : List V} {ds : List D}, OwnL T A H (List.replicate n .fz) f vs ds → f = [] ∧ RepA T A vs ds
  | 0, _, _, _, h => by
    cases h
    exact ⟨rfl, .nil⟩
  | n + 1, _, _, _, h => by
    rw [List.replicate_succ] at h
    cases h with
    | cons r q =>
      cases r with
      | fz r =>
        obtain ⟨e, t⟩ := OwnL.to_rep q
        exact ⟨by simp [e], .cons r t⟩
theorem OwnL.get : ∀ {ts : List OT} {f : List Addr} {vs : List V} {ds : List D} {i : Nat} {d : D}, OwnL T A H ts f vs ds → ds[i]? = some d →
    ∃ v t g, vs[i]? = some v ∧ ts[i]? = some t ∧ Own T A H t g v d ∧ (∀ a ∈ g, a ∈ f) ∧ (f.Nodup → g.Nodup)
  | _, _, _, _, _, _, .nil, e => by simp at e
  | _, _, _, _, 0, _, .cons r _, e => by
    simp at e; subst e
    exact ⟨_, _, _, rfl, rfl, r, fun a ha => List.mem_append_left _ ha, fun n => (List.nodup_append.mp n).1⟩
  | _, _, _, _, i + 1, _, .cons _ q, e => by
    obtain ⟨v, t, g, h1, h2, h3, h4, h5⟩ := OwnL.get (i := i) q (by simpa using e)
    exact ⟨v, t, g, by simpa using h1, by simpa using h2, h3, fun a ha => List.mem_append_right _ (h4 a ha), fun n => h5 (List.nodup_append.mp n).2.1⟩
end

/-! ### the part of the heap that stands still -/
open Classical in
/-- the heap without what U holds -/
noncomputable def msk (H : Hp) (U : Addr → Prop) : Hp := fun a => if U a then none else H a
theorem msk_some {H : Hp} {U : Addr → Prop} {a : Addr} {o : HO} : msk H U a = some o ↔ ¬ U a ∧ H a = some o := by
  unfold msk
  split
  · rename_i h; simp [h]
  · rename_i h; simp [h]
theorem msk_same {H : Hp} {U : Addr → Prop} : Same (msk H U) H := Same.of2 fun _ _ h => (msk_some.mp h).2
theorem msk_mono {H H' : Hp} {U U' : Addr → Prop} (s : Same H H') (h : ∀ a, U' a → U a ∨ H a = none) : Same (msk H U) (msk H' U') := by
  have key : ∀ {a : Addr} {o : HO}, msk H U a = some o → ¬ U' a := fun {a o} e => by
    obtain ⟨h1, h2⟩ := msk_some.mp e
    intro q
    rcases h a q with z | z
    · exact h1 z
    · rw [z] at h2; cases h2
  exact ⟨fun e n => msk_some.mpr ⟨key e, s.at_ (msk_some.mp e).2 n⟩, fun e => let ⟨ps', q⟩ := s.tb (msk_some.mp e).2; ⟨ps', msk_some.mpr ⟨key e, q⟩⟩⟩
end Pv

/-! Pv, part B: a small language of plain data (expressions IE, statements IS), and what it computes. -/
namespace Pv
open PySem

/-! ### equality of data -/
mutual
def D.py : D → Option PyData
  | .non => some .none
  | .bl b => some (.bool b)
  | .int i => some (.int i)
  | .str s => some (.str s)
  | .tup ds => (D.pyA ds).map .tuple
  | .lst ds => (D.pyA ds).map .list
  | .scr _ => none
  | .obj _ _ _ => none
  | .exc _ _ => none
def D.pyA : List D → Option (List PyData)
  | [] => some []
  | d :: ds => match D.py d, D.pyA ds with
    | some x, some xs => some (x :: xs)
    | _, _ => none
end
mutual
def D.dp : D → Nat
  | .tup ds => D.dpA ds + 1
  | .lst ds => D.dpA ds + 1
  | _ => 0
def D.dpA : List D → Nat
  | [] => 0
  | d :: ds => max (D.dp d) (D.dpA ds)
end
mutual
def D.cmpOk : D → Bool
  | .non | .bl _ | .int _ => true
  | .str s => PyData.strOk s
  | .tup ds => D.cmpOkA ds
  | .lst ds => D.cmpOkA ds
  | .scr _ => false
  | .obj _ _ _ => false
  | .exc _ _ => false
def D.cmpOkA : List D → Bool
  | [] => true
  | d :: ds => D.cmpOk d && D.cmpOkA ds
end
mutual
def D.eqv : D → D → Bool
  | .non, .non => true
  | .bl a, .bl b => a == b
  | .int a, .int b => a == b
  | .bl a, .int b => (if a then 1 else 0) == b
  | .int a, .bl b => a == (if b then 1 else 0)
  | .str a, .str b => a == b
  | .tup a, .tup b => D.eqvA a b
  | .lst a, .lst b => D.eqvA a b
  | _, _ => false
def D.eqvA : List D → List D → Bool
  | [], [] => true
  | a :: as, b :: bs => D.eqv a b && D.eqvA as bs
  | _, _ => false
end
mutual
theorem D.py_of : ∀ {d : D}, D.cmpOk d = true → ∃ p, D.py d = some p ∧ p.canLay0 = true ∧ p.depth = D.dp d
  | .non, _ => ⟨_, rfl, rfl, rfl⟩
  | .bl _, _ => ⟨_, rfl, rfl, rfl⟩
  | .int _, _ => ⟨_, rfl, rfl, rfl⟩
  | .str s, h => ⟨_, rfl, by simpa [PyData.canLay0, D.cmpOk] using h, rfl⟩
  | .tup ds, h => by
    obtain ⟨ps, e, l, k⟩ := D.pyA_of (ds := ds) (by simpa [D.cmpOk] using h)
    exact ⟨.tuple ps, by simp [D.py, e], by simpa [PyData.canLay0] using l, by simp [PyData.depth, D.dp, k]⟩
  | .lst ds, h => by
    obtain ⟨ps, e, l, k⟩ := D.pyA_of (ds := ds) (by simpa [D.cmpOk] using h)
    exact ⟨.list ps, by simp [D.py, e], by simpa [PyData.canLay0] using l, by simp [PyData.depth, D.dp, k]⟩
  | .scr _, h => by simp [D.cmpOk] at h
  | .obj _ _ _, h => by simp [D.cmpOk] at h
  | .exc _ _, h => by simp [D.cmpOk] at h
theorem D.pyA_of : ∀ {ds : List D}, D.cmpOkA ds = true → ∃ ps, D.pyA ds = some ps ∧ PyData.canLayAll0 ps = true ∧ PyData.depthAll ps = D.dpA ds
  | [], _ => ⟨[], rfl, rfl, rfl⟩
  | d :: ds, h => by
    simp only [D.cmpOkA, Bool.and_eq_true] at h
    obtain ⟨p, e1, l1, k1⟩ := D.py_of h.1
    obtain ⟨ps, e2, l2, k2⟩ := D.pyA_of h.2
    exact ⟨p :: ps, by simp [D.pyA, e1, e2], by simp [PyData.canLayAll0, l1, l2], by simp [PyData.depthAll, D.dpA, k1, k2]⟩
end
mutual
theorem D.eqv_py : ∀ {a b : D} {p q : PyData}, D.py a = some p → D.py b = some q → PyData.eqv p q = D.eqv a b
  | .non, b, p, q, h1, h2 => by
    cases h1
    cases b <;> simp [D.py, Option.map_eq_some_iff] at h2 <;> first | (obtain ⟨_, _, rfl⟩ := h2; rfl) | (subst h2; rfl)
  | .bl x, b, p, q, h1, h2 => by
    cases h1
    cases b <;> simp [D.py, Option.map_eq_some_iff] at h2 <;> first | (obtain ⟨_, _, rfl⟩ := h2; rfl) | (subst h2; rfl)
  | .int x, b, p, q, h1, h2 => by
    cases h1
    cases b <;> simp [D.py, Option.map_eq_some_iff] at h2 <;> first | (obtain ⟨_, _, rfl⟩ := h2; rfl) | (subst h2; rfl)
  | .str x, b, p, q, h1, h2 => by
    cases h1
    cases b <;> simp [D.py, Option.map_eq_some_iff] at h2 <;> first | (obtain ⟨_, _, rfl⟩ := h2; rfl) | (subst h2; rfl)
  | .tup x, b, p, q, h1, h2 => by
    simp only [D.py, Option.map_eq_some_iff] at h1
    obtain ⟨ps, e1, rfl⟩ := h1
    cases b with
    | tup y =>
      simp only [D.py, Option.map_eq_some_iff] at h2
      obtain ⟨qs, e2, rfl⟩ := h2
      simp only [PyData.eqv, D.eqv]
      exact D.eqvA_py e1 e2
    | lst y =>
      simp only [D.py, Option.map_eq_some_iff] at h2
      obtain ⟨qs, e2, rfl⟩ := h2
      rfl
    | _ => first | (cases h2; rfl) | (simp [D.py] at h2)
  | .lst x, b, p, q, h1, h2 => by
    simp only [D.py, Option.map_eq_some_iff] at h1
    obtain ⟨ps, e1, rfl⟩ := h1
    cases b with
    | lst y =>
      simp only [D.py, Option.map_eq_some_iff] at h2
      obtain ⟨qs, e2, rfl⟩ := h2
      simp only [PyData.eqv, D.eqv]
      exact D.eqvA_py e1 e2
    | tup y =>
      simp only [D.py, Option.map_eq_some_iff] at h2
      obtain ⟨qs, e2, rfl⟩ := h2
      rfl
    | _ => first | (cases h2; rfl) | (simp [D.py] at h2)
  | .scr _, _, _, _, h1, _ => by simp [D.py] at h1
  | .obj _ _ _, _, _, _, h1, _ => by simp [D.py] at h1
  | .exc _ _, _, _, _, h1, _ => by simp [D.py] at h1
theorem D.eqvA_py : ∀ {a b : List D} {p q : List PyData}, D.pyA a = some p → D.pyA b = some q → PyData.eqvAll p q = D.eqvA a b
  | [], [], p, q, h1, h2 => by cases h1; cases h2; rfl
  | [], y :: ys, p, q, h1, h2 => by
    cases h1
    simp only [D.pyA] at h2
    split at h2 <;> cases h2
    rfl
  | x :: xs, [], p, q, h1, h2 => by
    cases h2
    simp only [D.pyA] at h1
    split at h1 <;> cases h1
    rfl
  | x :: xs, y :: ys, p, q, h1, h2 => by
    simp only [D.pyA] at h1 h2
    split at h1
    · rename_i e1 e2
      split at h2
      · rename_i e3 e4
        cases h1
        cases h2
        simp only [PyData.eqvAll, D.eqvA]
        rw [D.eqv_py e1 e3, D.eqvA_py e2 e4]
      · cases h2
    · cases h1
end

/-! ### what comes out -/
inductive R where
  | ok (d : D) | ex (c : Str) (ds : List D) | bad
def R.bind : R → (D → R) → R
  | .ok d, f => f d
  | .ex c ds, _ => .ex c ds
  | .bad, _ => .bad
@[simp] theorem R.bind_ok (d : D) (f : D → R) : (R.ok d).bind f = f d := rfl
@[simp] theorem R.bind_ex (c : Str) (ds : List D) (f : D → R) : (R.ex c ds).bind f = .ex c ds := rfl
@[simp] theorem R.bind_bad (f : D → R) : R.bad.bind f = .bad := rfl

/-! ### expressions -/
inductive BOp where | add | sub | mul | fdiv | mod | pow
  deriving DecidableEq
inductive COp where | eq | ne | lt | le | gt | ge
  deriving DecidableEq
/-- built-in calls -/
inductive Blt where
  | len | abs | int | min | max | list | tuple | gcd
  | isBool | isInt | isTuple | isList | isStr
  deriving DecidableEq
/-- what a for or a comprehension goes over -/
inductive Itr where | val | rng | zip | enu | rev
  deriving DecidableEq
/-- targets -/
inductive Tg where
  | nm (i : Nat) | tp (t : Tg) | nil | cons (t ts : Tg)
/-- operations of their own: objects, calls with keywords, methods of lists .. -/
inductive XOp where
  | fld (f : Str) (cs : List Str)
  | prp (f : Str) (js : List (Str × Nat))
  | mth (m : Str) (js : List (Str × Nat))
  | mk (c : Str) (j : Nat)
  | kmk (c : Str) (j : Nat) (n : Nat) (ks : List Str) (ds : List D)
  | kcall (j : Nat) (n : Nat) (ks : List Str) (ds : List D)
  | obc (js : List (Str × Nat))
  | inO (neg : Bool) (js : List (Str × Nat))
  | inS (neg : Bool)
  | lcm | srt
  | lidx | lcnt
  | isC (q : Str) (yes : List Str)
  | xfl (f : Str) (n : Nat)
inductive IE where
  | vr (i : Nat) | ct (d : D) | gl (x : Str) (d : D)
  | nil | cons (e a : IE)
  | tp (as : IE) | ls (as : IE)
  | bin (o : BOp) (a b : IE) | neg (a : IE)
  | cmp (o : COp) (a b : IE) | cmp2 (o p : COp) (a b c : IE)
  | isN (a : IE) | ntN (a : IE)
  | and (a b : IE) | or (a b : IE) | not (a : IE) | ife (c a b : IE)
  | call (f : Nat) (as : IE)
  | blt (b : Blt) (as : IE)
  | ix (a i : IE) | sl (a lo hi : IE) | slF (a lo : IE) | slT (a hi : IE)
  | it (k : Itr) (as : IE)
  | lc (e : IE) (t : Tg) (it c : IE)
  | x (o : XOp) (as : IE)
  /-- f(lambda: e), where f calls what it got and gives its error, caught, to the def w -/
  | refd (w : Nat) (cs : List Str) (e : IE)

abbrev Env := List (Option D)
def lim : Nat := 1000000
def mulOk (i j : Int) : Bool := i.natAbs.log2 + j.natAbs.log2 < 1000000
def divOk (j : Int) : Bool := j != 0 && j.natAbs.log2 < 9000
def powOk (i j : Int) : Bool := 0 ≤ j && j ≤ 1000000 && i.natAbs < 2 ^ 64
def mkL (ds : List D) : R := if ds.length ≤ lim then .ok (.lst ds) else .bad
def mkT (ds : List D) : R := if ds.length ≤ lim then .ok (.tup ds) else .bad
def binD : BOp → D → D → R
  | .add, .int i, .int j => .ok (.int (i + j))
  | .sub, .int i, .int j => .ok (.int (i - j))
  | .mul, .int i, .int j => if mulOk i j then .ok (.int (i * j)) else .bad
  | .fdiv, .int i, .int j => if divOk j then .ok (.int (i.fdiv j)) else .bad
  | .mod, .int i, .int j => if j != 0 then .ok (.int (i.fmod j)) else .bad
  | .pow, .int i, .int j => if powOk i j then .ok (.int (i ^ j.toNat)) else .bad
  | .add, .lst a, .lst b => mkL (a ++ b)
  | .add, .tup a, .tup b => mkT (a ++ b)
  | .mul, .lst a, .int k => if -1000000 ≤ k ∧ k ≤ 1000000 then mkL (List.replicate k.toNat a).flatten else .bad
  | _, _, _ => .bad
def cmpI : COp → Int → Int → Bool
  | .eq, i, j => i == j
  | .ne, i, j => i != j
  | .lt, i, j => decide (i < j)
  | .le, i, j => decide (i ≤ j)
  | .gt, i, j => decide (j < i)
  | .ge, i, j => decide (j ≤ i)
def eqD (a b : D) : R := if D.cmpOk a && D.cmpOk b && decide (D.dp a ≤ 60) && decide (D.dp b ≤ 60) then .ok (.bl (D.eqv a b)) else .bad
def notR : R → R
  | .ok (.bl b) => .ok (.bl (!b))
  | _ => .bad
def cmpD : COp → D → D → R
  | .eq, a, b => eqD a b
  | .ne, a, b => notR (eqD a b)
  | o, .int i, .int j => .ok (.bl (cmpI o i j))
  | _, _, _ => .bad
/-- the place that an index names -/
abbrev ixn (n : Nat) (i : Int) : Option Nat := L2.ixN n i
def atD (ds : List D) (i : Int) : R := match (ixn ds.length i).bind fun j => ds[j]? with
  | some d => .ok d
  | none => .bad
def ixD : D → D → R
  | .lst ds, .int i => atD ds i
  | .tup ds, .int i => atD ds i
  | .scr ns, .int i => atD (ns.map .int) i
  | _, _ => .bad
/-- a slice's bound -/
abbrev cutN (n d : Nat) (k : Option Int) : Nat := HT.sIx n d k
def cutL (ds : List D) (lo hi : Option Int) : List D := (ds.drop (cutN ds.length 0 lo)).take (cutN ds.length ds.length hi - cutN ds.length 0 lo)
def slO : D → Option Int → Option Int → R
  | .lst ds, lo, hi => mkL (cutL ds lo hi)
  | .tup ds, lo, hi => mkT (cutL ds lo hi)
  | .scr ns, lo, hi => mkL (cutL (ns.map .int) lo hi)
  | _, _, _ => .bad
def intR : D → (Int → R) → R
  | .int i, f => f i
  | _, _ => .bad
def bltD : Blt → List D → R
  | .len, [.lst ds] => .ok (.int ds.length)
  | .len, [.tup ds] => .ok (.int ds.length)
  | .len, [.scr ns] => .ok (.int ns.length)
  | .abs, [.int i] => .ok (.int (if i < 0 then -i else i))
  | .int, [.int i] => .ok (.int i)
  | .min, [.int i, .int j] => .ok (.int (if j < i then j else i))
  | .max, [.int i, .int j] => .ok (.int (if j > i then j else i))
  | .list, [.lst ds] => .ok (.lst ds)
  | .list, [.tup ds] => .ok (.lst ds)
  | .list, [.scr ns] => .ok (.lst (ns.map .int))
  | .tuple, [.lst ds] => .ok (.tup ds)
  | .tuple, [.tup ds] => .ok (.tup ds)
  | .gcd, [.int i, .int j] => .ok (.int (Nat.gcd i.natAbs j.natAbs : Nat))
  | .isBool, [d] => match d with | .bl _ => .ok (.bl true) | .int _ | .non | .str _ | .tup _ | .lst _ => .ok (.bl false) | _ => .bad
  | .isInt, [d] => match d with | .bl _ | .int _ => .ok (.bl true) | .non | .str _ | .tup _ | .lst _ => .ok (.bl false) | _ => .bad
  | .isTuple, [d] => match d with | .tup _ => .ok (.bl true) | .bl _ | .int _ | .non | .str _ | .lst _ => .ok (.bl false) | _ => .bad
  | .isList, [d] => match d with | .lst _ => .ok (.bl true) | .bl _ | .int _ | .non | .str _ | .tup _ => .ok (.bl false) | _ => .bad
  | .isStr, [d] => match d with | .str _ => .ok (.bl true) | .bl _ | .int _ | .non | .lst _ | .tup _ => .ok (.bl false) | _ => .bad
  | _, _ => .bad
def rngOk (i : Int) : Bool := -1000000000 ≤ i && i ≤ 1000000000
def zipD : List D → List D → List D
  | a :: as, b :: bs => .tup [a, b] :: zipD as bs
  | _, _ => []
def enuD : Nat → List D → List D
  | _, [] => []
  | n, d :: ds => .tup [.int n, d] :: enuD (n + 1) ds
def seqD : D → Option (List D)
  | .lst ds => some ds
  | .tup ds => some ds
  | .scr ns => some (ns.map .int)
  | _ => none
/-- the items that are gone through, as a tuple -/
def itD : Itr → List D → R
  | .val, [d] => match seqD d with | some ds => .ok (.tup ds) | none => .bad
  | .rng, [.int j] => if rngOk j then .ok (.tup ((List.range j.toNat).map fun k : Nat => .int k)) else .bad
  | .rng, [.int i, .int j] => if rngOk i && rngOk j then .ok (.tup ((List.range (j - i).toNat).map fun k : Nat => .int (i + k))) else .bad
  | .zip, [.lst x, .lst y] => .ok (.tup (zipD x y))
  | .zip, [.lst x, .tup y] => .ok (.tup (zipD x y))
  | .zip, [.tup x, .lst y] => .ok (.tup (zipD x y))
  | .zip, [.tup x, .tup y] => .ok (.tup (zipD x y))
  | .enu, [.lst x] => .ok (.tup (enuD 0 x))
  | .rev, [.lst x] => .ok (.tup x.reverse)
  | .rev, [.tup x] => .ok (.tup x.reverse)
  | _, _ => .bad
def argD : R → (List D → R) → R
  | .ok (.tup ds), f => f ds
  | .ok _, _ => .bad
  | .ex c ds, _ => .ex c ds
  | .bad, _ => .bad
@[simp] theorem argD_ok (ds : List D) (f : List D → R) : argD (.ok (.tup ds)) f = f ds := rfl
def consD : R → R → R
  | .ok d, .ok (.tup ds) => .ok (.tup (d :: ds))
  | .ok _, .ok _ => .bad
  | .ok _, r => r
  | r, _ => r
@[simp] theorem consD_ok (d : D) (ds : List D) : consD (.ok d) (.ok (.tup ds)) = .ok (.tup (d :: ds)) := rfl

/-- what a target binds -/
def bindT : Tg → D → Env → Option Env
  | .nm i, d, env => some (env.set i (some d))
  | .tp t, .tup ds, env => bindT t (.tup ds) env
  | .tp _, _, _ => none
  | .nil, .tup [], env => some env
  | .nil, _, _ => none
  | .cons t ts, .tup (d :: ds), env => (bindT t d env).bind (bindT ts (.tup ds))
  | .cons _ _, _, _ => none
/-- the slots that a target binds -/
def Tg.own : Tg → List Nat
  | .nm i => [i]
  | .tp t => t.own
  | .nil => []
  | .cons t ts => t.own ++ ts.own
def wipeE (env : Env) : List Nat → Env
  | [] => env
  | v :: vs => (wipeE env vs).set v none
/-- go through items; each is told: bad, left out, or kept as some item -/
def mapO (f : D → Option (Option D)) : List D → Option (List D)
  | [] => some []
  | d :: ds => match f d with
    | none => none
    | some none => mapO f ds
    | some (some v) => (mapO f ds).map (v :: ·)
def stepC (v : R) : Option (Option D) := match v with | .ok d => some (some d) | _ => none
def condC (c : R) (v : R) : Option (Option D) := match c with
  | .ok (.bl true) => stepC v
  | .ok (.bl false) => some none
  | _ => none
def lcD (r : R) (f : D → Option (Option D)) : R := argD r fun ds => if ds.length ≤ lim then (match mapO f ds with | some l => .ok (.lst l) | none => .bad) else .bad
def envO (o : Option Env) (f : Env → Option (Option D)) : Option (Option D) := match o with | some e => f e | none => none

abbrev Sem1 := Nat → List D → R
/-- a field -/
def lkp (f : Str) : List Str → List D → Option D
  | n :: ns, d :: ds => if n = f then some d else lkp f ns ds
  | _, _ => none
def optR : Option D → R
  | some d => .ok d
  | none => .bad
def optJ (o : Option Nat) (f : Nat → R) : R := match o with | some j => f j | none => .bad
/-- what a maker gives: the new object -/
def mkO : R → R
  | .ok (.tup [.non, o]) => .ok o
  | .ex c ds => .ex c ds
  | _ => .bad
def noX : R → R
  | .ok d => .ok d
  | _ => .bad
def negR (neg : Bool) : R → R
  | .ok (.bl b) => .ok (.bl (neg != b))
  | .ex c ds => .ex c ds
  | _ => .bad
def D.flat : D → Bool
  | .non | .bl _ | .int _ => true
  | .str s => PyData.strOk s
  | _ => false
def D.ints : List D → Option (List Int)
  | [] => some []
  | .int i :: ds => (D.ints ds).map (i :: ·)
  | _ => none
/-- a tuple of n ints -/
def D.tupI (n : Nat) : D → Bool
  | .tup ds => match D.ints ds with | some is => is.length == n | none => false
  | _ => false
def leI : List Int → List Int → Bool
  | a :: as, b :: bs => decide (a < b) || (a == b && leI as bs)
  | _, _ => true
def D.tupIs : D → List Int
  | .tup ds => (D.ints ds).getD []
  | _ => []
/-- put in ahead of the first that isn't less -/
def insT (d : D) : List D → List D
  | [] => [d]
  | e :: es => if leI d.tupIs e.tupIs then d :: e :: es else e :: insT d es
def srtT (ds : List D) : List D := ds.foldr insT []
def idxD (x : D) : List D → Nat → Option Nat
  | [], _ => none
  | d :: ds, n => if D.eqv d x then some n else idxD x ds (n + 1)
def cntD (x : D) : List D → Nat
  | [] => 0
  | d :: ds => (if D.eqv d x then 1 else 0) + cntD x ds
def xopD (S : Sem1) : XOp → List D → R
  | .fld f cs, [.obj c ns ds] => if cs.contains c then optR (lkp f ns ds) else .bad
  | .prp _ js, [.obj c ns ds] => optJ (js.lookup c) fun j => noX (S j [.obj c ns ds])
  | .mth m js, .obj c ns ds :: as => if ns.contains m then .bad else optJ (js.lookup c) fun j => S j (.obj c ns ds :: as)
  | .mk c j, as => mkO (S j (.obj c [] [] :: as))
  | .kmk c j n ks ds, as => if as.length = n + ks.length then mkO (S j (.obj c [] [] :: (as ++ ds))) else .bad
  | .kcall j n ks ds, as => if as.length = n + ks.length then S j (as ++ ds) else .bad
  | .obc js, .obj c ns ds :: as => optJ (js.lookup c) fun j => S j (.obj c ns ds :: as)
  | .inO neg js, [x, .obj c ns ds] => optJ (js.lookup c) fun j => negR neg (S j [.obj c ns ds, x])
  | .inS neg, [x, .lst ds] => if x.flat && ds.all D.flat then .ok (.bl (neg != ds.any fun d => D.eqv d x)) else .bad
  | .inS neg, [x, .tup ds] => if x.flat && ds.all D.flat then .ok (.bl (neg != ds.any fun d => D.eqv d x)) else .bad
  | .lcm, [.int i, .int j] => if decide (i.natAbs.log2 < 8999) && decide (j.natAbs.log2 < 8999) then .ok (.int (Nat.lcm i.natAbs j.natAbs : Nat)) else .bad
  | .srt, [.lst ds] => if decide (ds.length < 64) && ds.all (D.tupI 3) then .ok (.lst (srtT ds)) else .bad
  | .lidx, [.lst ds, x] => if x.flat && ds.all D.flat then (match idxD x ds 0 with | some n => .ok (.int n) | none => .bad) else .bad
  | .lcnt, [.lst ds, x] => if x.flat && ds.all D.flat then .ok (.int (cntD x ds)) else .bad
  | .isC _ yes, [.exc c []] => .ok (.bl (yes.contains c))
  | .xfl _ n, [.exc _ ds] => optR ds[n]?
  | _, _ => .bad
/-- the receiver of a method is looked at ahead of the arguments -/
def preX : XOp → R → R → R
  | .mth m js, .ok (.obj c ns _), k => if (js.lookup c).isSome && !ns.contains m then k else .bad
  | .mth _ _, .ok _, _ => .bad
  | .obc js, .ok (.obj c _ _), k => if (js.lookup c).isSome then k else .bad
  | .obc _, .ok _, _ => .bad
  | .lidx, .ok (.lst _), k => k
  | .lidx, .ok _, _ => .bad
  | .lcnt, .ok (.lst _), k => k
  | .lcnt, .ok _, _ => .bad
  | _, _, k => k
mutual
/-- no exception stands within -/
def D.noX : D → Bool
  | .exc _ _ => false
  | .tup ds => D.noXA ds
  | .lst ds => D.noXA ds
  | .obj _ _ ds => D.noXA ds
  | _ => true
def D.noXA : List D → Bool
  | [] => true
  | d :: ds => D.noX d && D.noXA ds
end
/-- the call's outcome, as the refusing def tells it -/
def refD (S : Sem1) (w : Nat) (cs : List Str) : R → R
  | .ok _ => .ok .non
  | .ex c ds => if cs.contains c then (match S w [.exc c ds] with | .ok d => if d.noX then .ok d else .bad | _ => .bad) else .bad
  | .bad => .bad
def ev (S : Sem1) (env : Env) : IE → R
  | .vr i => match env[i]? with | some (some d) => .ok d | _ => .bad
  | .ct d => .ok d
  | .gl _ d => .ok d
  | .nil => .ok (.tup [])
  | .cons e a => consD (ev S env e) (ev S env a)
  | .tp as => argD (ev S env as) mkT
  | .ls as => argD (ev S env as) mkL
  | .bin o a b => (ev S env a).bind fun x => (ev S env b).bind fun y => binD o x y
  | .neg a => (ev S env a).bind fun x => match x with | .int i => .ok (.int (-i)) | _ => .bad
  | .cmp o a b => (ev S env a).bind fun x => (ev S env b).bind fun y => cmpD o x y
  | .cmp2 o p a b c => (ev S env a).bind fun x => (ev S env b).bind fun y => match cmpD o x y with
    | .ok (.bl true) => (ev S env c).bind fun z => cmpD p y z
    | .ok (.bl false) => .ok (.bl false)
    | _ => .bad
  | .isN a => (ev S env a).bind fun x => match x with | .non => .ok (.bl true) | _ => .ok (.bl false)
  | .ntN a => (ev S env a).bind fun x => match x with | .non => .ok (.bl false) | _ => .ok (.bl true)
  | .and a b => (ev S env a).bind fun x => match x with | .bl true => ev S env b | .bl false => .ok (.bl false) | _ => .bad
  | .or a b => (ev S env a).bind fun x => match x with | .bl true => .ok (.bl true) | .bl false => ev S env b | _ => .bad
  | .not a => (ev S env a).bind fun x => match x with | .bl b => .ok (.bl (!b)) | _ => .bad
  | .ife c a b => (ev S env c).bind fun x => match x with | .bl true => ev S env a | .bl false => ev S env b | _ => .bad
  | .call f as => argD (ev S env as) (S f)
  | .blt b as => argD (ev S env as) (bltD b)
  | .ix a i => (ev S env a).bind fun x => (ev S env i).bind fun y => ixD x y
  | .sl a lo hi => (ev S env a).bind fun x => (ev S env lo).bind fun y => intR y fun i => (ev S env hi).bind fun z => intR z fun j => slO x (some i) (some j)
  | .slF a lo => (ev S env a).bind fun x => (ev S env lo).bind fun y => intR y fun i => slO x (some i) none
  | .slT a hi => (ev S env a).bind fun x => (ev S env hi).bind fun z => intR z fun j => slO x none (some j)
  | .it k as => argD (ev S env as) (itD k)
  | .lc e t it c => lcD (ev S env it) fun d => envO (bindT t d (wipeE env t.own)) fun env' => match c with
    | .nil => stepC (ev S env' e)
    | c => condC (ev S env' c) (ev S env' e)
  | .x o (.cons a as) => preX o (ev S env a) (argD (consD (ev S env a) (ev S env as)) (xopD S o))
  | .x o as => argD (ev S env as) (xopD S o)
  | .refd w cs e => refD S w cs (ev S env e)

/-! ### statements -/
inductive Fl where
  | nx (env : Env) | bk (env : Env) | ct (env : Env) | rt (d : D) (env : Env) | ex (c : Str) (ds : List D) | bad
/-- statements of their own: stores into an object, raise, pop -/
inductive SOp where
  | fst (c : Str) (i : Nat) (f : Str) (t : OT)
  | rse (c : Str)
  | pop (i : Nat)
inductive IS where
  | skip
  | seq (a b : IS)
  | frz (i : Nat)
  | set (i : Nat) (t : OT) (e : IE)
  | asg (t : Tg) (e : IE)
  | aug (i : Nat) (o : BOp) (e : IE)
  | sub (i : Nat) (k e : IE)
  | app (i : Nat) (e : IE)
  | expr (e : IE)
  | ret (e : IE) | retN
  | ite (c : IE) (a b : IS)
  | for (t : Tg) (it : IE) (b : IS)
  | whl (c : IE) (b : IS)
  | brk | cnt | pass | never
  | x (o : SOp) (as : IE)
def Fl.andThen : Fl → (Env → Fl) → Fl
  | .nx env, f => f env
  | .bk env, _ => .bk env
  | .ct env, _ => .ct env
  | .rt d e, _ => .rt d e
  | .ex c ds, _ => .ex c ds
  | .bad, _ => .bad
@[simp] theorem Fl.andThen_nx (env : Env) (f : Env → Fl) : (Fl.nx env).andThen f = f env := rfl
@[simp] theorem Fl.andThen_rt (d : D) (e : Env) (f : Env → Fl) : (Fl.rt d e).andThen f = .rt d e := rfl
@[simp] theorem Fl.andThen_bk (e : Env) (f : Env → Fl) : (Fl.bk e).andThen f = .bk e := rfl
@[simp] theorem Fl.andThen_ct (e : Env) (f : Env → Fl) : (Fl.ct e).andThen f = .ct e := rfl
@[simp] theorem Fl.andThen_bad (f : Env → Fl) : Fl.bad.andThen f = .bad := rfl
@[simp] theorem Fl.andThen_ex (c : Str) (ds : List D) (f : Env → Fl) : (Fl.ex c ds).andThen f = .ex c ds := rfl
def R.fl : R → (D → Fl) → Fl
  | .ok d, f => f d
  | .ex c ds, _ => .ex c ds
  | .bad, _ => .bad
@[simp] theorem R.fl_ok (d : D) (f : D → Fl) : (R.ok d).fl f = f d := rfl
@[simp] theorem R.fl_ex (c : Str) (ds : List D) (f : D → Fl) : (R.ex c ds).fl f = .ex c ds := rfl
@[simp] theorem R.fl_bad (f : D → Fl) : R.bad.fl f = .bad := rfl
/-- a for: the turns over the items -/
def forL (f : D → Env → Fl) : List D → Env → Fl
  | [], env => .nx env
  | d :: ds, env => match f d env with
    | .nx e => forL f ds e
    | .ct e => forL f ds e
    | .bk e => .nx e
    | r => r
/-- a while: n turns at most -/
def whN (c : Env → R) (f : Env → Fl) : Nat → Env → Option Fl
  | 0, _ => none
  | n + 1, env => match c env with
    | .ok (.bl true) => (match f env with
      | .nx e => whN c f n e
      | .ct e => whN c f n e
      | .bk e => some (.nx e)
      | r => some r)
    | .ok (.bl false) => some (.nx env)
    | .ex k ds => some (.ex k ds)
    | _ => some .bad
open Classical in
/-- a while, of as many turns as it takes -/
noncomputable def whL (c : Env → R) (f : Env → Fl) (env : Env) : Fl :=
  if h : ∃ n r, whN c f n env = some r then (whN c f (choose h) env).getD .bad else .bad
def argF : R → (List D → Fl) → Fl
  | .ok (.tup ds), f => f ds
  | .ok _, _ => .bad
  | .ex c ds, _ => .ex c ds
  | .bad, _ => .bad
@[simp] theorem argF_ok (ds : List D) (f : List D → Fl) : argF (.ok (.tup ds)) f = f ds := rfl
def putN (f : Str) : List Str → List Str
  | [] => [f]
  | n :: ns => if n = f then n :: ns else n :: putN f ns
def putD {α : Type} (f : Str) (d : α) : List Str → List α → List α
  | [], _ => [d]
  | n :: ns, e :: es => if n = f then d :: es else e :: putD f d ns es
  | _ :: _, [] => []
def sopD (env : Env) : SOp → List D → Fl
  | .fst c i f _, [d] => match env[i]? with
    | some (some (.obj c' ns ds)) => if c' = c ∧ ns.length < 900 then .nx (env.set i (some (.obj c (putN f ns) (putD f d ns ds)))) else .bad
    | _ => .bad
  | .rse c, [.str _] => .ex c []
  | .pop i, [] => match env[i]? with
    | some (some (.lst (d :: ds))) => .nx (env.set i (some (.lst (d :: ds).dropLast)))
    | _ => .bad
  | _, _ => .bad
def optF (o : Option Env) (f : Env → Fl) : Fl := match o with | some e => f e | none => .bad
noncomputable def exec (S : Sem1) (env : Env) : IS → Fl
  | .skip => .nx env
  | .seq a b => (exec S env a).andThen fun e => exec S e b
  | .frz _ => .nx env
  | .set i _ e => (ev S env e).fl fun d => .nx (env.set i (some d))
  | .asg t e => (ev S env e).fl fun d => optF (bindT t d env) .nx
  | .aug i o e => match env[i]? with
    | some (some x) => (ev S env e).fl fun y => (binD o x y).fl fun z => .nx (env.set i (some z))
    | _ => .bad
  | .sub i k e => (ev S env e).fl fun v => match env[i]? with
    | some (some (.lst ds)) => (ev S env k).fl fun j => match j with
      | .int j => (match ixn ds.length j with
        | some n => .nx (env.set i (some (.lst (ds.set n v))))
        | none => .bad)
      | _ => .bad
    | _ => .bad
  | .app i e => match env[i]? with
    | some (some (.lst ds)) => (ev S env e).fl fun v => if ds.length < lim then .nx (env.set i (some (.lst (ds ++ [v])))) else .bad
    | _ => .bad
  | .expr e => (ev S env e).fl fun _ => .nx env
  | .ret e => (ev S env e).fl fun d => .rt d env
  | .retN => .rt .non env
  | .ite c a b => (ev S env c).fl fun x => match x with | .bl true => exec S env a | .bl false => exec S env b | _ => .bad
  | .for t it b => match ev S env it with
    | .ok (.tup ds) => forL (fun d e => optF (bindT t d e) fun e' => exec S e' b) ds env
    | .ex c ds => .ex c ds
    | _ => .bad
  | .whl c b => whL (fun e => ev S e c) (fun e => exec S e b) env
  | .brk => .bk env
  | .cnt => .ct env
  | .pass => .nx env
  | .never => .bad
  | .x o as => argF (ev S env as) (sopD env o)

/-! ### the loops' equations -/
theorem whN_mono {c : Env → R} {f : Env → Fl} : ∀ {n : Nat} {env : Env} {r : Fl}, whN c f n env = some r → ∀ k, whN c f (n + k) env = some r
  | 0, _, _, h, _ => by simp [whN] at h
  | n + 1, env, r, h, k => by
    rw [show n + 1 + k = (n + k) + 1 by omega]
    rw [whN] at h ⊢
    cases hc : c env with
    | ok d =>
      rw [hc] at h
      cases d with
      | bl b =>
        cases b with
        | true =>
          simp only at h ⊢
          cases hf : f env with
          | nx e => rw [hf] at h; exact whN_mono h k
          | ct e => rw [hf] at h; exact whN_mono h k
          | bk e => rw [hf] at h; exact h
          | rt d e => rw [hf] at h; exact h
          | ex a b => rw [hf] at h; exact h
          | bad => rw [hf] at h; exact h
        | false => exact h
      | _ => exact h
    | ex a b => rw [hc] at h; exact h
    | bad => rw [hc] at h; exact h
theorem whN_det {c : Env → R} {f : Env → Fl} {n m : Nat} {env : Env} {r q : Fl} (h : whN c f n env = some r) (g : whN c f m env = some q) : r = q := by
  have h1 := whN_mono h m
  have h2 := whN_mono g n
  rw [show m + n = n + m by omega] at h2
  rw [h1] at h2
  exact Option.some.inj h2
theorem whL_of {c : Env → R} {f : Env → Fl} {n : Nat} {env : Env} {r : Fl} (h : whN c f n env = some r) : whL c f env = r := by
  unfold whL
  have hx : ∃ n r, whN c f n env = some r := ⟨n, r, h⟩
  rw [dif_pos hx]
  obtain ⟨q, hq⟩ := Classical.choose_spec hx
  rw [hq, whN_det h hq]
  rfl
theorem whL_ends {c : Env → R} {f : Env → Fl} {env : Env} (h : whL c f env ≠ .bad) : ∃ n, whN c f n env = some (whL c f env) := by
  unfold whL at h ⊢
  split
  · rename_i hx
    obtain ⟨q, hq⟩ := Classical.choose_spec hx
    exact ⟨_, by rw [hq]; rfl⟩
  · rename_i hx
    rw [dif_neg hx] at h
    exact absurd rfl h
/-- a while's one turn -/
theorem whL_eq (c : Env → R) (f : Env → Fl) (env : Env) : whL c f env = (c env).fl fun x => match x with
    | .bl true => (match f env with
      | .nx e => whL c f e
      | .ct e => whL c f e
      | .bk e => .nx e
      | r => r)
    | .bl false => .nx env
    | _ => .bad := by
  have go : ∀ e, (∀ n, whN c f (n + 1) env = whN c f n e) → whL c f env = whL c f e := fun e k => by
    by_cases h : whL c f e = .bad
    · by_cases h' : whL c f env = .bad
      · rw [h, h']
      · obtain ⟨n, hn⟩ := whL_ends h'
        cases n with
        | zero => simp [whN] at hn
        | succ n =>
          rw [k] at hn
          exact (whL_of hn).symm
    · obtain ⟨n, hn⟩ := whL_ends h
      rw [← k] at hn
      exact whL_of hn
  cases hc : c env with
  | ok d =>
    cases d with
    | bl b =>
      cases b with
      | true =>
        simp only [R.fl_ok]
        cases hf : f env with
        | nx e => exact go e fun n => (by rw [whN]; simp only [hc, hf])
        | ct e => exact go e fun n => (by rw [whN]; simp only [hc, hf])
        | bk e => exact whL_of (n := 1) (by unfold whN; rw [hc]; simp only [hf])
        | rt d e => exact whL_of (n := 1) (by unfold whN; rw [hc]; simp only [hf])
        | ex a b => exact whL_of (n := 1) (by unfold whN; rw [hc]; simp only [hf])
        | bad => exact whL_of (n := 1) (by unfold whN; rw [hc]; simp only [hf])
      | false => exact whL_of (n := 1) (by unfold whN; rw [hc]; rfl)
    | _ => exact whL_of (n := 1) (by unfold whN; rw [hc]; rfl)
  | ex a b => exact whL_of (n := 1) (by unfold whN; rw [hc]; rfl)
  | bad => exact whL_of (n := 1) (by unfold whN; rw [hc]; rfl)

/-! ### a text of defs -/
structure FD where
  np : Nat
  ns : Nat
  ty : OT
  body : IS
  /-- is its first argument lent: as what it comes, as what it goes -/
  lt : Option (OT × OT) := none
def Fl.out : Fl → R
  | .rt d _ => .ok d
  | .nx _ => .ok .non
  | .ex c ds => .ex c ds
  | _ => .bad
/-- what a def gives to which its first argument is lent: with the outcome that argument as it is then -/
def lent (d : D) (env : Env) : R := match env[0]? with
  | some (some o) => .ok (.tup [d, o])
  | _ => .bad
def Fl.outL : Fl → R
  | .rt d e => lent d e
  | .nx e => lent .non e
  | .ex c ds => .ex c ds
  | _ => .bad
def FD.out (F : FD) (r : Fl) : R := match F.lt with | none => r.out | some _ => r.outL
noncomputable def runF (S : Sem1) (F : FD) (as : List D) : R := if as.length = F.np then F.out (exec S (as.map some ++ List.replicate (F.ns - F.np) none) F.body) else .bad
/-- the defs below n -/
noncomputable def semN (P : List FD) : Nat → Sem1
  | 0 => fun _ _ => .bad
  | n + 1 => fun j as => if j = n then (match P[n]? with | some F => runF (semN P n) F as | none => .bad) else semN P n j as
noncomputable def sem (P : List FD) : Sem1 := fun j as => semN P (j + 1) j as
theorem semN_lt (P : List FD) : ∀ {n j : Nat}, j < n → semN P n j = sem P j
  | n + 1, j, h => by
    by_cases e : j = n
    · subst e; rfl
    · have h' : j < n := by omega
      rw [← semN_lt P h']
      funext as
      show (if j = n then _ else _) = _
      rw [if_neg e]
theorem semN_ge (P : List FD) : ∀ {n j : Nat}, n ≤ j → semN P n j = fun _ => .bad
  | 0, j, _ => rfl
  | n + 1, j, h => by
    have e : j ≠ n := by omega
    rw [← semN_ge P (show n ≤ j by omega)]
    funext as
    show (if j = n then _ else _) = _
    rw [if_neg e]
theorem semN_eq (P : List FD) (n : Nat) : semN P n = fun j => if j < n then sem P j else fun _ => .bad := by
  funext j
  split
  · rename_i h; exact semN_lt P h
  · rename_i h; exact semN_ge P (by omega)
theorem sem_eq (P : List FD) {j : Nat} {F : FD} (h : P[j]? = some F) (as : List D) : sem P j as = runF (fun i => if i < j then sem P i else fun _ => .bad) F as := by
  rw [← semN_eq]
  show (if j = j then (match P[j]? with | some F => runF (semN P j) F as | none => .bad) else _) = _
  rw [if_pos rfl, h]
end Pv

/-! Pv, part C: a frame's state: its slots, what it owns, and how both change. -/
namespace Pv
open PySem PySem.Spec PyProof.Rows L2
variable [TabC]

/-- slots and what they stand for -/
inductive Sl (T : Tb) (A H : Hp) : List OT → List (List Addr) → L2.St → Env → Prop
  | nil : Sl T A H [] [] [] []
  | no {t ts fs s σ es} : Sl T A H ts fs σ es → Sl T A H (t :: ts) ([] :: fs) (s :: σ) (none :: es)
  | is {t ts f fs v σ d es} : Own T A H t f v d → Sl T A H ts fs σ es → Sl T A H (t :: ts) (f :: fs) (some v :: σ) (some d :: es)
section
variable {T : Tb} {A A' H H' : Hp}
theorem Sl.mono (ea : Same A A') : ∀ {Γ : List OT} {fs : List (List Addr)} {σ : L2.St} {env : Env}, (∀ a ∈ fs.flatten, ∀ o, (∀ ps, o ≠ .tbl ps) → H a = some o → H' a = some o) → Sl T A H Γ fs σ env → Sl T A' H' Γ fs σ env
  | _, _, _, _, _, .nil => .nil
  | _, _, _, _, k, .no r => .no (Sl.mono ea (fun a ha => k a (by simpa using ha)) r)
  | _, _, _, _, k, .is o r => .is (o.mono ea fun a ha => k a (by simp [ha])) (Sl.mono ea (fun a ha => k a (by rw [List.flatten_cons]; exact List.mem_append_right _ ha)) r)
theorem Sl.dom : ∀ {Γ : List OT} {fs : List (List Addr)} {σ : L2.St} {env : Env}, Sl T A H Γ fs σ env → ∀ a ∈ fs.flatten, H a ≠ none
  | _, _, _, _, .nil, a, ha => by simp at ha
  | _, _, _, _, .no r, a, ha => Sl.dom r a (by simpa using ha)
  | _, _, _, _, .is o r, a, ha => by
    rw [List.flatten_cons] at ha
    exact (List.mem_append.mp ha).elim (o.dom a) (Sl.dom r a)
theorem Sl.len : ∀ {Γ : List OT} {fs : List (List Addr)} {σ : L2.St} {env : Env}, Sl T A H Γ fs σ env → σ.length = env.length ∧ fs.length = env.length ∧ Γ.length = env.length
  | _, _, _, _, .nil => ⟨rfl, rfl, rfl⟩
  | _, _, _, _, .no r => by simp [Sl.len r]
  | _, _, _, _, .is _ r => by simp [Sl.len r]
theorem Sl.get : ∀ {Γ : List OT} {fs : List (List Addr)} {σ : L2.St} {env : Env} {i : Nat} {d : D}, Sl T A H Γ fs σ env → env[i]? = some (some d) →
    ∃ v t f, σ[i]? = some (some v) ∧ Γ[i]? = some t ∧ fs[i]? = some f ∧ Own T A H t f v d
  | _, _, _, _, _, _, .nil, e => by simp at e
  | _, _, _, _, 0, _, .no _, e => by simp at e
  | _, _, _, _, 0, _, .is o _, e => by
    simp at e; subst e
    exact ⟨_, _, _, rfl, rfl, rfl, o⟩
  | _, _, _, _, i + 1, _, .no r, e => by
    obtain ⟨v, t, f, h1, h2, h3, h4⟩ := Sl.get (i := i) r (by simpa using e)
    exact ⟨v, t, f, by simpa using h1, by simpa using h2, by simpa using h3, h4⟩
  | _, _, _, _, i + 1, _, .is _ r, e => by
    obtain ⟨v, t, f, h1, h2, h3, h4⟩ := Sl.get (i := i) r (by simpa using e)
    exact ⟨v, t, f, by simpa using h1, by simpa using h2, by simpa using h3, h4⟩
theorem Sl.set {t : OT} {f : List Addr} {v : V} {d : D} (o : Own T A H t f v d) : ∀ {Γ : List OT} {fs : List (List Addr)} {σ : L2.St} {env : Env} (i : Nat), Sl T A H Γ fs σ env →
    Sl T A H (Γ.set i t) (fs.set i f) (σ.set i (some v)) (env.set i (some d))
  | _, _, _, _, _, .nil => .nil
  | _, _, _, _, 0, .no r => .is o r
  | _, _, _, _, 0, .is _ r => .is o r
  | _, _, _, _, i + 1, .no r => .no (Sl.set o i r)
  | _, _, _, _, i + 1, .is q r => .is q (Sl.set o i r)
theorem Sl.unset : ∀ {Γ : List OT} {fs : List (List Addr)} {σ : L2.St} {env : Env} (i : Nat), Sl T A H Γ fs σ env → Sl T A H (Γ.set i .fz) (fs.set i []) (σ.set i none) (env.set i none)
  | _, _, _, _, _, .nil => .nil
  | _, _, _, _, 0, .no r => .no r
  | _, _, _, _, 0, .is _ r => .no r
  | _, _, _, _, i + 1, .no r => .no (Sl.unset i r)
  | _, _, _, _, i + 1, .is q r => .is q (Sl.unset i r)
/-- a slot's value stands still from now on -/
theorem Sl.freeze (ea : Same A A') : ∀ {Γ : List OT} {fs : List (List Addr)} {σ : L2.St} {env : Env} (i : Nat), (∀ a ∈ (fs[i]?).getD [], ∀ o, H a = some o → A' a = some o) → Sl T A H Γ fs σ env → Sl T A' H (Γ.set i .fz) (fs.set i []) σ env
  | _, _, _, _, _, _, .nil => .nil
  | _, _, _, _, 0, _, .no r => .no (r.mono ea fun _ _ _ _ h => h)
  | _, _, _, _, 0, k, .is o r => .is (.fz (o.rep ea (by simpa using k))) (r.mono ea fun _ _ _ _ h => h)
  | _, _, _, _, i + 1, k, .no r => .no (Sl.freeze ea i (by simpa using k) r)
  | _, _, _, _, i + 1, k, .is q r => .is (q.mono ea fun _ _ _ _ h => h) (Sl.freeze ea i (by simpa using k) r)
theorem Sl.nones : ∀ n : Nat, Sl T A H (List.replicate n .fz) (List.replicate n []) (List.replicate n none) (List.replicate n none)
  | 0 => .nil
  | n + 1 => .no (Sl.nones n)
theorem Sl.start (n : Nat) {vs : List V} {ds : List D} (r : RepA T A vs ds) : Sl T A H (List.replicate (ds.length + n) .fz) (List.replicate (ds.length + n) []) (vs.map some ++ List.replicate n none) (ds.map some ++ List.replicate n none) := by
  induction vs generalizing ds with
  | nil =>
    cases r
    rw [List.length_nil, Nat.zero_add]
    exact Sl.nones n
  | cons v vs ih =>
    cases r with
    | cons r t =>
      rename_i d ds
      rw [List.length_cons, show ds.length + 1 + n = (ds.length + n) + 1 by omega]
      exact .is (.fz r) (ih t)
end

/-- lists of addresses -/
theorem flat_set {fs : List (List Addr)} {i : Nat} {f : List Addr} : ∀ {a : Addr}, a ∈ (fs.set i f).flatten → a ∈ f ∨ a ∈ fs.flatten := by
  intro a h
  obtain ⟨l, hl, ha⟩ := List.mem_flatten.mp h
  rcases List.mem_or_eq_of_mem_set hl with q | q
  · exact .inr (List.mem_flatten.mpr ⟨l, q, ha⟩)
  · exact .inl (q ▸ ha)
theorem flat_nodup : ∀ {fs : List (List Addr)} (i : Nat) {f : List Addr}, fs.flatten.Nodup → f.Nodup → (∀ a ∈ f, a ∉ fs.flatten) → (fs.set i f).flatten.Nodup
  | [], _, _, _, _, _ => by simp
  | g :: fs, 0, f, n, nf, k => by
    rw [List.set_cons_zero, List.flatten_cons]
    rw [List.flatten_cons] at n k
    refine List.nodup_append.mpr ⟨nf, (List.nodup_append.mp n).2.1, fun a ha b hb e => ?_⟩
    subst e
    exact k a ha (List.mem_append_right _ hb)
  | g :: fs, i + 1, f, n, nf, k => by
    rw [List.set_cons_succ, List.flatten_cons]
    rw [List.flatten_cons] at n k
    have n' := List.nodup_append.mp n
    refine List.nodup_append.mpr ⟨n'.1, flat_nodup i n'.2.1 nf fun a ha hb => k a ha (List.mem_append_right _ hb), fun a ha b hb e => ?_⟩
    subst e
    rcases flat_set hb with q | q
    · exact k a q (List.mem_append_left _ ha)
    · exact n'.2.2 a ha a q rfl
theorem flat_out : ∀ {fs : List (List Addr)} {i : Nat} {f : List Addr}, fs.flatten.Nodup → fs[i]? = some f → ∀ a ∈ f, a ∉ (fs.set i []).flatten
  | [], _, _, _, e => by simp at e
  | g :: fs, 0, f, n, e => by
    simp at e; subst e
    intro a ha hb
    rw [List.set_cons_zero, List.flatten_cons, List.nil_append] at hb
    rw [List.flatten_cons] at n
    exact (List.nodup_append.mp n).2.2 a ha a hb rfl
  | g :: fs, i + 1, f, n, e => by
    intro a ha hb
    rw [List.flatten_cons] at n
    have n' := List.nodup_append.mp n
    have e' : fs[i]? = some f := by simpa using e
    rw [List.set_cons_succ, List.flatten_cons] at hb
    rcases List.mem_append.mp hb with q | q
    · exact n'.2.2 a q a (List.mem_flatten.mpr ⟨f, List.mem_of_getElem? e', ha⟩) rfl
    · exact flat_out n'.2.1 e' a ha q
/-- a part of a slot's addresses is as good -/
theorem flat_sub : ∀ {fs : List (List Addr)} {i : Nat} {f g : List Addr}, fs.flatten.Nodup → fs[i]? = some f → (∀ a ∈ g, a ∈ f) → g.Nodup → (fs.set i g).flatten.Nodup := by
  intro fs i f g n e hs ng
  have h1 : (fs.set i []).flatten.Nodup := flat_nodup i n List.nodup_nil (by simp)
  have h2 : (fs.set i g) = ((fs.set i []).set i g) := by simp
  rw [h2]
  exact flat_nodup i h1 ng fun a ha => flat_out n e a (hs a ha)

/-- what a frame is given: U: what stood at its entry and is not its own to see; H0: the heap at its entry; W0: what it is lent; v0: the object that it is lent -/
structure Cfg where
  U : Addr → Prop
  H0 : Hp
  W0 : List Addr
  v0 : Option V
/-- the part that stands still -/
noncomputable abbrev Cfg.A (c : Cfg) (H : Hp) (W : List Addr) : Hp := msk H fun a => c.U a ∨ a ∈ W
/-- all that stood at the entry stands, but what was lent -/
structure Cfg.Sm (c : Cfg) (H : Hp) : Prop where
  at_ : ∀ {a o}, c.H0 a = some o → (∀ ps, o ≠ .tbl ps) → a ∉ c.W0 → H a = some o
  tb : ∀ {a ps}, c.H0 a = some (.tbl ps) → ∃ ps', H a = some (.tbl ps')
  ta : LamX.Tabs TabC.tl c.H0 → LamX.Tabs TabC.tl H
def OT.isOi : OT → Bool
  | .oi _ _ => true
  | _ => false
structure SO (T : Tb) (c : Cfg) (Γ : List OT) (fs : List (List Addr)) (H : Hp) (σ : L2.St) (env : Env) : Prop where
  sl : Sl T (c.A H fs.flatten) H Γ fs σ env
  nd : fs.flatten.Nodup
  fr : ∀ a ∈ fs.flatten, c.H0 a = none ∨ a ∈ c.W0
  un : ∀ a ∈ fs.flatten, ¬ c.U a
  dm : ∀ a, c.U a → H a ≠ none
  sm : c.Sm H
  sf : ∀ {t v}, c.v0 = some v → Γ[0]? = some t → t.isOi = true → σ[0]? = some (some v) ∧ ∃ d, env[0]? = some (some d)
/-- fresh: not on the heap H -/
def New (H : Hp) (f : List Addr) : Prop := ∀ a ∈ f, H a = none
/-- neither a table of code objects nor a code object -/
structure Pln (o : HO) : Prop where
  nt : ∀ ps, o ≠ .tbl ps
  nc : ∀ c q, o ≠ LamX.CodeO c q
theorem pln_lst {vs : List V} : Pln (.lst vs) := ⟨fun _ z => (by cases z), fun _ _ z => (by unfold LamX.CodeO at z; cases z)⟩
theorem pln_ins {C dx : Addr} {fs : List (Str × V)} : Pln (.ins C dx fs) := ⟨fun _ z => (by cases z), fun _ _ z => (by unfold LamX.CodeO at z; cases z)⟩
theorem tabS_upd {H : Hp} {p P : Addr} {q : Str} {o ob : HO} (h : H p = some o) (n : Pln o) (t : LamX.TabS H P q) : LamX.TabS (upd H p ob) P q := by
  obtain ⟨ps, h1, h2, h3⟩ := t
  have np : P ≠ p := fun e => by
    rw [e, h] at h1
    cases h1
    exact n.nt _ rfl
  refine ⟨ps, by rw [upd_ne np]; exact h1, h2, fun pos cv hc => ?_⟩
  obtain ⟨c, e1, e2⟩ := h3 pos cv hc
  refine ⟨c, e1, ?_⟩
  rw [upd_ne]
  · exact e2
  · intro e
    rw [e, h] at e2
    cases e2
    exact n.nc _ _ rfl
theorem tabs_upd {l : List (Addr × Str)} {H : Hp} {p : Addr} {o ob : HO} (h : H p = some o) (n : Pln o) (t : LamX.Tabs l H) : LamX.Tabs l (upd H p ob) := fun q hq => tabS_upd h n (t q hq)
theorem Cfg.Sm.mono {c : Cfg} {H H' : Hp} (h : c.Sm H) (s : Ev H H') : c.Sm H' := ⟨fun e n k => s.at_ (h.at_ e n k) n, fun e => let ⟨_, q⟩ := h.tb e; s.tb q, fun t => s.ta (h.ta t)⟩
theorem Cfg.Sm.none {c : Cfg} {H : Hp} (h : c.Sm H) {a : Addr} (k : a ∉ c.W0) (n : H a = Option.none) : c.H0 a = Option.none := by
  cases e : c.H0 a with
  | none => rfl
  | some o =>
    by_cases q : ∃ ps, o = .tbl ps
    · obtain ⟨ps, rfl⟩ := q
      obtain ⟨ps', z⟩ := h.tb e
      rw [n] at z; cases z
    · have := h.at_ e (fun ps z => q ⟨ps, z⟩) k
      rw [n] at this; cases this

section
variable {T : Tb} {c : Cfg} {Γ : List OT} {fs : List (List Addr)} {H H' : Hp} {σ : L2.St} {env : Env}
theorem SO.dom (so : SO T c Γ fs H σ env) : ∀ a ∈ fs.flatten, H a ≠ none := so.sl.dom
theorem Cfg.A_mono (s : Ev H H') {W : List Addr} : Same (c.A H W) (c.A H' W) := msk_mono s.toSame fun _ h => .inl h
/-- the part that stands still grows with the heap -/
theorem Cfg.A_grow (s : Ev H H') {W W' : List Addr} (h : ∀ a ∈ W', a ∈ W ∨ H a = none) : Same (c.A H W) (c.A H' W') := msk_mono s.toSame fun a q => by
  rcases q with q | q
  · exact .inl (.inl q)
  · exact (h a q).elim (fun z => .inl (.inr z)) .inr
theorem Ev.keep (s : Ev H H') {a : Addr} {o : HO} (h : H a = Option.some o) (n : Pln o ∨ ∃ xs, o = .tup xs) : H' a = Option.some o := s.at_ h fun ps => n.elim (fun z => z.nt ps) fun ⟨xs, z⟩ e => by rw [z] at e; cases e
theorem SO.mono (so : SO T c Γ fs H σ env) (s : Ev H H') : SO T c Γ fs H' σ env where
  sl := so.sl.mono (Cfg.A_mono s) fun a _ o n h => s.at_ h n
  nd := so.nd
  fr := so.fr
  un := so.un
  dm := fun a h => s.some (so.dm a h)
  sm := so.sm.mono s
  sf := so.sf
/-- nothing of f is hidden or owned -/
theorem SO.new (so : SO T c Γ fs H σ env) {f : List Addr} (n : New H f) : (∀ a ∈ f, ¬ c.U a) ∧ (∀ a ∈ f, a ∉ fs.flatten) ∧ ∀ a ∈ f, a ∉ c.W0 → c.H0 a = none :=
  ⟨fun a ha u => so.dm a u (n a ha), fun a ha w => so.dom a w (n a ha), fun a ha k => so.sm.none k (n a ha)⟩
theorem get_set {α : Type} {l : List α} {i : Nat} {x y : α} (h : (l.set i x)[0]? = some y) : (i = 0 ∧ x = y) ∨ (i ≠ 0 ∧ l[0]? = some y) := by
  by_cases e : i = 0
  · subst e
    refine .inl ⟨rfl, ?_⟩
    cases l with
    | nil => simp at h
    | cons a l => simpa using h
  · rw [List.getElem?_set_ne e] at h
    exact .inr ⟨e, h⟩
theorem SO.sf_set (so : SO T c Γ fs H σ env) {i : Nat} {t : OT} {o : Option V} {o' : Option D} (h0 : i ≠ 0 ∨ c.v0 = none ∨ t.isOi = false) {t' : OT} {v : V} (hv : c.v0 = some v) (hg : (Γ.set i t)[0]? = some t') (ho : t'.isOi = true) : (σ.set i o)[0]? = some (some v) ∧ ∃ d, (env.set i o')[0]? = some (some d) := by
  rcases get_set hg with ⟨e, q⟩ | ⟨e, q⟩
  · subst q
    rcases h0 with z | z | z
    · exact absurd e z
    · rw [z] at hv; cases hv
    · rw [z] at ho; cases ho
  · rw [List.getElem?_set_ne e, List.getElem?_set_ne e]
    exact so.sf hv q ho
/-- a slot is set to a value with what it owns: made since Hb -/
theorem SO.set {Hb : Hp} (so : SO T c Γ fs Hb σ env) (s : Ev Hb H) (i : Nat) {t : OT} {f : List Addr} {v : V} {d : D} (h0 : i ≠ 0 ∨ c.v0 = none ∨ t.isOi = false) (nf : f.Nodup) (n : New Hb f)
    (o : Own T (c.A H (fs.flatten ++ f)) H t f v d) : SO T c (Γ.set i t) (fs.set i f) H (σ.set i (some v)) (env.set i (some d)) ∧ Same (c.A Hb fs.flatten) (c.A H (fs.set i f).flatten) := by
  obtain ⟨n1, n2, n3⟩ := so.new n
  have e1 : Same (c.A H (fs.flatten ++ f)) (c.A H (fs.set i f).flatten) := msk_mono (Same.refl _) fun a q => by
    rcases q with q | q
    · exact .inl (.inl q)
    · exact .inl (.inr ((flat_set q).elim (fun z => List.mem_append_right _ z) fun z => List.mem_append_left _ z))
  have e2 : Same (c.A Hb fs.flatten) (c.A H (fs.set i f).flatten) := Cfg.A_grow s fun a q => (flat_set q).elim (fun z => .inr (n a z)) .inl
  refine ⟨⟨Sl.set (o.mono e1 fun _ _ _ _ h => h) i (so.sl.mono e2 fun a _ ob n h => s.at_ h n), flat_nodup i so.nd nf n2, fun a ha => (flat_set ha).elim (fun z => ?_) (so.fr a), fun a ha => (flat_set ha).elim (n1 a) (so.un a), fun a h => s.some (so.dm a h), so.sm.mono s, fun hv hg ho => so.sf_set h0 hv hg ho⟩, e2⟩
  by_cases k : a ∈ c.W0
  · exact .inr k
  · exact .inl (n3 a z k)
/-- .. to what stands still -/
theorem SO.setF {Hb : Hp} (so : SO T c Γ fs Hb σ env) (s : Ev Hb H) (i : Nat) {v : V} {d : D} (r : Rep T (c.A H fs.flatten) v d) :
    SO T c (Γ.set i .fz) (fs.set i []) H (σ.set i (some v)) (env.set i (some d)) ∧ Same (c.A Hb fs.flatten) (c.A H (fs.set i []).flatten) :=
  so.set s i (.inr (.inr rfl)) List.nodup_nil (fun a h => by cases h) (.fz (by rw [List.append_nil]; exact r))
/-- a slot's value stands still from now on -/
theorem SO.freeze (so : SO T c Γ fs H σ env) (i : Nat) : SO T c (Γ.set i .fz) (fs.set i []) H σ env ∧ Same (c.A H fs.flatten) (c.A H (fs.set i []).flatten) := by
  have e2 : Same (c.A H fs.flatten) (c.A H (fs.set i []).flatten) := Cfg.A_grow (Ev.refl _) fun a q => (flat_set q).elim (fun z => by cases z) .inl
  refine ⟨⟨so.sl.freeze e2 i fun a ha o h => msk_some.mpr ⟨fun q => ?_, h⟩, flat_nodup i so.nd List.nodup_nil (by simp), fun a ha => (flat_set ha).elim (fun z => by cases z) (so.fr a), fun a ha => (flat_set ha).elim (fun z => by cases z) (so.un a), so.dm, so.sm, fun hv hg ho => ?_⟩, e2⟩
  · cases e : fs[i]? with
    | none => rw [e] at ha; cases ha
    | some f =>
      rw [e] at ha
      have hm : a ∈ fs.flatten := List.mem_flatten.mpr ⟨f, List.mem_of_getElem? e, ha⟩
      rcases q with q | q
      · exact so.un a hm q
      · exact flat_out so.nd e a ha q
  · rcases get_set hg with ⟨_, q⟩ | ⟨_, q⟩
    · subst q; cases ho
    · exact so.sf hv q ho
/-- a slot is forgotten -/
theorem SO.unset (so : SO T c Γ fs H σ env) (i : Nat) : SO T c (Γ.set i .fz) (fs.set i []) H (σ.set i none) (env.set i none) ∧ Same (c.A H fs.flatten) (c.A H (fs.set i []).flatten) := by
  have e2 : Same (c.A H fs.flatten) (c.A H (fs.set i []).flatten) := Cfg.A_grow (Ev.refl _) fun a q => (flat_set q).elim (fun z => by cases z) .inl
  exact ⟨⟨(so.sl.mono e2 fun _ _ _ _ h => h).unset i, flat_nodup i so.nd List.nodup_nil (by simp), fun a ha => (flat_set ha).elim (fun z => by cases z) (so.fr a), fun a ha => (flat_set ha).elim (fun z => by cases z) (so.un a), so.dm, so.sm, fun hv hg ho => so.sf_set (.inr (.inr rfl)) hv hg ho⟩, e2⟩
/-- a slot of one's own is changed in place: the object at p (in the slot's own part) becomes ob; the slot is held as t', owning g: part of what it owned, and what is new -/
theorem SO.write (so : SO T c Γ fs H σ env) {i : Nat} {t t' : OT} {f g : List Addr} {v : V} {d : D} {p : Addr} {o0 ob : HO} (hf : fs[i]? = some f) (hp : p ∈ f) (ho : H p = some o0) (pl : Pln o0) (hg : ∀ a ∈ g, a ∈ f) (ng : g.Nodup)
    (hσ : σ[i]? = some (some v)) (hΓ : Γ[i]? = some t) (hoi : t'.isOi = true → t.isOi = true)
    (o : Own T (c.A (upd H p ob) (fs.set i g).flatten) (upd H p ob) t' g v d) : SO T c (Γ.set i t') (fs.set i g) (upd H p ob) σ (env.set i (some d)) ∧ Same (c.A H fs.flatten) (c.A (upd H p ob) (fs.set i g).flatten) := by
  have hm : ∀ a ∈ f, a ∈ fs.flatten := fun a ha => List.mem_flatten.mpr ⟨f, List.mem_of_getElem? hf, ha⟩
  have ne : ∀ {a : Addr}, ¬ (c.U a ∨ a ∈ fs.flatten) → a ≠ p := fun {a} h1 e => h1 (.inr (by rw [e]; exact hm p hp))
  have nk : ∀ {a : Addr}, ¬ (c.U a ∨ a ∈ fs.flatten) → ¬ (c.U a ∨ a ∈ (fs.set i g).flatten) := fun {a} h1 z => h1 (z.elim .inl fun z => .inr ((flat_set z).elim (fun k => hm a (hg a k)) id))
  have e2 : Same (c.A H fs.flatten) (c.A (upd H p ob) (fs.set i g).flatten) := Same.of2 fun a q h => by
    obtain ⟨h1, h2⟩ := msk_some.mp h
    refine msk_some.mpr ⟨nk h1, ?_⟩
    rw [upd_ne (ne h1)]
    exact h2
  have sl1 : Sl T (c.A (upd H p ob) (fs.set i g).flatten) (upd H p ob) (Γ.set i .fz) (fs.set i []) (σ.set i none) (env.set i none) := by
    refine (so.sl.unset i).mono e2 fun a ha q n h => ?_
    rw [upd_ne]
    · exact h
    · intro e
      subst e
      exact flat_out so.nd hf a hp ha
  have sl2 := sl1.set o i
  rw [List.set_set, List.set_set, List.set_set, List.set_set] at sl2
  rw [show σ.set i (some v) = σ from List.ext_getElem? fun j => by
    by_cases e : i = j
    · subst e
      rw [List.getElem?_set_self (List.getElem?_eq_some_iff.mp hσ).1, hσ]
    · rw [List.getElem?_set_ne e]] at sl2
  refine ⟨⟨sl2, flat_sub so.nd hf hg ng, fun a ha => so.fr a ((flat_set ha).elim (fun k => hm a (hg a k)) id), fun a ha => so.un a ((flat_set ha).elim (fun k => hm a (hg a k)) id), fun a h => ?_, ⟨fun {a q} h n k => ?_, fun {a ps} h => ?_, fun h => tabs_upd ho pl (so.sm.ta h)⟩, fun {t2 v2} hv hgt hoi2 => ?_⟩, e2⟩
  · by_cases e : a = p
    · subst e; rw [upd_same]; simp
    · rw [upd_ne e]; exact so.dm a h
  · rw [upd_ne]
    · exact so.sm.at_ h n k
    · intro e
      subst e
      rcases so.fr a (hm a hp) with z | z
      · rw [z] at h; cases h
      · exact k z
  · obtain ⟨ps', z⟩ := so.sm.tb h
    refine ⟨ps', ?_⟩
    rw [upd_ne]
    · exact z
    · intro e
      rw [e, ho] at z
      cases z
      exact pl.nt _ rfl
  · rcases get_set hgt with ⟨e, q⟩ | ⟨e, q⟩
    · subst e q
      obtain ⟨z1, d', z2⟩ := so.sf hv hΓ (hoi hoi2)
      exact ⟨z1, d, by rw [List.getElem?_set_self (List.getElem?_eq_some_iff.mp z2).1]⟩
    · rw [List.getElem?_set_ne e]
      exact so.sf hv q hoi2
end
end Pv

/-! Pv, part Z: zip of two sequences, each a list or a tuple. -/
namespace Pv
open PySem PySem.Spec PyProof.Rows L2

/-- a list or a tuple that is read -/
def Sq (K : PySem.W.Frag) (H : Hp) (a : Addr) (xs : List V) : Prop := SqL K H a xs ∨ SqT K H a xs
theorem Sq.mono {K : PySem.W.Frag} {H H' : Hp} {a : Addr} {xs : List V} (e : Same H H') (h : Sq K H a xs) : Sq K H' a xs := h.imp e.seq (seqT e)
/-- its kind: a tuple, or a list -/
def SqK (k : Bool) (K : PySem.W.Frag) (H : Hp) (a : Addr) (xs : List V) : Prop := if k = true then SqT K H a xs else SqL K H a xs
def IsS (k : Bool) (h : Heap) (a : Addr) (items : Array Value) : Prop := if k = true then h.IsTuple a items else h.IsList a items
def IsIt (k : Bool) (h : Heap) (it a : Addr) (i : Nat) : Prop := if k = true then h.IsTupleIter it a i else h.IsListIter it a i
section
variable {X : Cx} {pins : List (Addr × Obj)} {σ : L2.St} {H : Hp} {s : Shared} {a : Addr} {xs : List V} {k : Bool}
theorem sqk_items (I : Inv X pins σ H s) (h : SqK k X.K H a xs) : ∃ its : List Value, Vals xs its ∧ IsS k s.heap a its.toArray := by
  cases k with
  | true =>
    obtain ⟨its, r, p, _⟩ := I.tuple (show SqT X.K H a xs from h)
    exact ⟨its, r, show s.heap.IsTuple a its.toArray from p⟩
  | false =>
    obtain ⟨its, r, p, _⟩ := I.list (show SqL X.K H a xs from h)
    exact ⟨its, r, show s.heap.IsList a its.toArray from p.isList⟩
theorem draws_k {prog : Program} {w : World} {A : Around} (hh : A.handled = none) (it : Addr) (hne : a ≠ it) (items : Array Value) :
    Draws prog w A it [it, a] items.size (fun i v => items[i]? = some v) (fun i h => IsIt k h it a i ∧ IsS k h a items) := by
  cases k with
  | true => exact Draws.tuple hh it a hne items
  | false => exact Draws.list hh it a hne items
theorem isIt_obj {h : Heap} {it : Addr} {i : Nat} (st : IsIt k h it a i) : ∃ o, h.get? it = some o ∧ ∀ v, o.data ≠ .cell v := by
  cases k with
  | true =>
    obtain ⟨o, e, _, d⟩ := (show h.IsTupleIter it a i from st)
    exact ⟨o, e, fun v q => by rw [d] at q; cases q⟩
  | false =>
    obtain ⟨o, e, _, d⟩ := (show h.IsListIter it a i from st)
    exact ⟨o, e, fun v q => by rw [d] at q; cases q⟩
theorem isIt_keep {h h' : Heap} {it : Addr} {i : Nat} (st : IsIt k h it a i) (kp : ∀ o, h.get? it = some o → h'.get? it = some o) : IsIt k h' it a i := by
  cases k with
  | true => exact (show h.IsTupleIter it a i from st).at kp
  | false => exact (show h.IsListIter it a i from st).at kp
end

/-- two sequences that stand, the items in new pairs -/
def ItzQ (K : PySem.W.Frag) (k l : Bool) (a b : Addr) (xs ys : List V) : It :=
  ⟨fun i H => SqK k K H a xs ∧ SqK l K H b ys ∧ i < xs.length ∧ i < ys.length,
   fun i H v H' => ∃ T x y, v = .ref T ∧ H T = none ∧ H' = upd H T (.tup [x, y]) ∧ xs[i]? = some x ∧ ys[i]? = some y,
   fun i H => SqK k K H a xs ∧ SqK l K H b ys ∧ (i = xs.length ∨ i = ys.length) ∧ i ≤ xs.length ∧ i ≤ ys.length⟩
theorem turn_zipQ {P : Program} {w : World} {K : PySem.W.Frag} {elts : List Expr} {kk : Nat} {tpos : Pos} {k l : Bool} {a b z TI TO i1 i2 : Addr} {xs ys : List V} (S : ZipSep2 z TI TO i1 i2 [i1, a] [i2, b]) (ha : a ≠ i1) (hb : b ≠ i2) :
    Turn P w K (.Tuple elts kk tpos) (ItzQ K k l a b xs ys) [z, TI, TO, i1, i2] z (fun i h => IsZip h z TI TO .none ∧ IsTupOf2 h TI (.ref i1) (.ref i2) ∧ (∃ x y, IsTupOf2 h TO x y) ∧ IsIt k h i1 a i ∧ IsIt l h i2 b i) where
  mem := by simp
  obj := fun i h st c hc => by
    obtain ⟨hz, hTI, ⟨x, y, hTO⟩, h1, h2⟩ := st
    have e' : c = z ∨ c = TI ∨ c = TO ∨ c = i1 ∨ c = i2 := by simpa using hc
    rcases e' with rfl | rfl | rfl | rfl | rfl
    · exact ⟨_, hz, fun v q => nomatch q⟩
    · exact ⟨_, hTI, fun v q => nomatch q⟩
    · exact ⟨_, hTO, fun v q => nomatch q⟩
    · exact isIt_obj h1
    · exact isIt_obj h2
  keep := fun i h h' st kp => by
    obtain ⟨hz, hTI, ⟨x, y, hTO⟩, h1, h2⟩ := st
    exact ⟨kp z (by simp) _ hz, kp TI (by simp) _ hTI, ⟨x, y, kp TO (by simp) _ hTO⟩, isIt_keep h1 fun o q => kp i1 (by simp) o q, isIt_keep h2 fun o q => kp i2 (by simp) o q⟩
  item := by
    intro X hP hw hK hc i pins s σ H E I hf st hg
    subst hP hw hK
    obtain ⟨hz, hTI, ⟨x0, y0, hTO⟩, h1, h2⟩ := st
    obtain ⟨qx, qy, lx, ly⟩ := hg
    obtain ⟨its, rv, p⟩ := sqk_items I qx
    obtain ⟨its2, rv2, p2⟩ := sqk_items I qy
    have l1 := rv.length
    have l2 := rv2.length
    have hd : X.A.in1.handled = none := I.ok.hd hc
    have zl : z < s.heap.objs.size := Heap.lt_size hz
    refine wpAny_pyNext_zipD2_item S (draws_k (k := k) hd i1 ha its.toArray) (draws_k (k := l) hd i2 hb its2.toArray) hz hTI hTO ⟨h1, p⟩ ⟨h2, p2⟩ (by simp; omega) (by simp; omega) fun u u2 h' tk eu eu2 z' TO' st1' st2' hT hsz hk => ?_
    refine ⟨_, rfl, wpAny_letOwnedTupleGo_zip (s := { s with heap := h', toks := tk }) z' fun h'' z'' sb => ?_⟩
    have hT2 : h''.get? s.heap.objs.size = some { cls := .type "tuple", data := .seq #[u, u2] } := (sb.2 _ (Nat.ne_of_gt zl)).trans hT
    have ex : xs[i]? = some xs[i] := List.getElem?_eq_getElem lx
    have ey : ys[i]? = some ys[i] := List.getElem?_eq_getElem ly
    obtain ⟨u', hu', ru⟩ := rv.get ex
    obtain ⟨v', hv', rv'⟩ := rv2.get ey
    have e1 : u' = u := by
      have : its[i]? = some u := by simpa using eu
      rw [hu'] at this
      exact Option.some.inj this
    have e2 : v' = u2 := by
      have : its2[i]? = some u2 := by simpa using eu2
      rw [hv'] at this
      exact Option.some.inj this
    subst e1 e2
    have new : ObjOk X.prog X.w (upd H s.heap.objs.size (.tup [xs[i], ys[i]])) h'' s.heap.objs.size (.tup [xs[i], ys[i]]) :=
      ⟨by show 2 ≤ sizeLine; decide, [u', v'], .cons ru (.cons rv' .nil), ⟨_, hT2, rfl, _, rfl⟩⟩
    have kept : ∀ c o, c ∉ [z, TI, TO, i1, i2] → s.heap.get? c = some o → h''.get? c = some o := fun c o hb q => by
      have n1 : c ≠ z := fun e => hb (by simp [e])
      have n2 : c ≠ TO := fun e => hb (by simp [e])
      have n3 : c ≠ i1 := fun e => hb (by simp [e])
      have n4 : c ≠ i2 := fun e => hb (by simp [e])
      exact (sb.2 c n1).trans (hk c o n1 n2 n3 n4 q)
    have I1 : Inv X pins σ (upd H s.heap.objs.size (.tup [xs[i], ys[i]])) { s with heap := h'', toks := tk } := I.turnedNew (t' := tk) (ch := [z, TI, TO, i1, i2]) (fun c o hb q => kept c o hb q) hf (Nat.le_refl _) new
    refine ⟨.ref s.heap.objs.size, _, I1, rfl, ⟨_, xs[i], ys[i], rfl, I.hok.fresh (Nat.le_refl _), rfl, ex, ey⟩, ⟨z'', ?_, ⟨u', v', ?_⟩, ?_, ?_⟩, fun c hcm => ?_⟩
    · exact (sb.2 _ S.TIz).trans (hk _ _ S.TIz S.TITO S.TIi1 S.TIi2 hTI)
    · exact (sb.2 _ S.TOz).trans TO'
    · exact isIt_keep st1'.1 fun o q => (sb.2 _ (Ne.symm S.zi1)).trans q
    · exact isIt_keep st2'.1 fun o q => (sb.2 _ (Ne.symm S.zi2)).trans q
    · have hlt : c < s.heap.objs.size := by
        have e' : c = z ∨ c = TI ∨ c = TO ∨ c = i1 ∨ c = i2 := by simpa using hcm
        rcases e' with q | q | q | q | q
        · rw [q]; exact zl
        · rw [q]; exact Heap.lt_size hTI
        · rw [q]; exact Heap.lt_size hTO
        · rw [q]; obtain ⟨_, e1, _⟩ := isIt_obj h1; exact Heap.lt_size e1
        · rw [q]; obtain ⟨_, e2, _⟩ := isIt_obj h2; exact Heap.lt_size e2
      rw [upd_ne (Nat.ne_of_lt hlt)]
      exact (hf c hcm).1
  done := by
    intro X hP hw hK hc i pins s σ H E I hf st hg
    subst hP hw hK
    obtain ⟨hz, hTI, ⟨x0, y0, hTO⟩, h1, h2⟩ := st
    obtain ⟨qx, qy, hend, lx, ly⟩ := hg
    obtain ⟨its, rv, p⟩ := sqk_items I qx
    obtain ⟨its2, rv2, p2⟩ := sqk_items I qy
    have l1 := rv.length
    have l2 := rv2.length
    have hd : X.A.in1.handled = none := I.ok.hd hc
    refine wpAny_pyNext_zipD2_end S (draws_k (k := k) hd i1 ha its.toArray) (draws_k (k := l) hd i2 hb its2.toArray) hz hTI hTO ⟨h1, p⟩ ⟨h2, p2⟩ (by simp; omega) (by simp; omega) (by simp; omega) fun h' tk hk => ⟨rfl, ?_⟩
    exact I.turnedL (t' := tk) (ch := [z, TI, TO, i1, i2]) (fun c o hb q => hk c o (fun e => hb (by simp [e])) (fun e => hb (by simp [e])) (fun e => hb (by simp [e])) (fun e => hb (by simp [e])) q) hf
  self := fun A i s Q E st h => wpAny_pyIter_zip st.1 h

/-- iter of such a sequence begins -/
theorem begins_k (k : Bool) (a : Addr) (items : Array Value) : ∃ o : Obj, Begins (.ref a) o (fun h => IsS k h a items) ∧ ∀ (h : Heap) (it : Addr), h.get? it = some o → IsIt k h it a 0 := by
  cases k with
  | true => exact ⟨_, begins_tuple a items, fun h it e => show h.IsTupleIter it a 0 from ⟨_, e, rfl, rfl⟩⟩
  | false => exact ⟨_, begins_list a items, fun h it e => show h.IsListIter it a 0 from ⟨_, e, rfl, rfl⟩⟩
def iZipQ (K : PySem.W.Frag) (ta : TA) : TI := fun σ H R => ta σ H fun vs H1 => ∃ k l a b xs ys, vs = [.ref a, .ref b] ∧ SqK k K H1 a xs ∧ SqK l K H1 b ys ∧ R (ItzQ K k l a b xs ys) H1
theorem pi_zipQ {X : Cx} {e e2 : Expr} {ta : TA} {p pos tpos : Pos} {elts : List Expr} {kk : Nat} (hg : Gl X "zip") (hm : X.mg "zip" = none) (ha : PA X [e, e2] ta)
    (hs : starEach [e, e2] X.env = (false, eval e X.env) :: starEach [e2] X.env) (hpl : (backTo pos (starEach [e2] X.env)).any (·.1) = false) :
    PI X (.Tuple elts kk tpos) (.Call (.Name "zip" p) [e, e2] [] pos) (iZipQ X.K ta) := by
  refine ⟨fun pins s σ H R I h => ?_⟩
  refine Call_ (ld_blt I hg hm PyProof.Rows.boot_zip (PyProof.Rows.callWith_type1 (thn (ha.run pos pins s σ H _ I h) fun us s1 ⟨vs, H1, I1, r1, q1⟩ => ?_) hs hpl))
  obtain ⟨k, l, a, b, xs, ys, ex, qx, qy, q⟩ := q1
  subst ex
  obtain ⟨u, u', rfl, ru, ru'⟩ := vals2 r1
  cases ru
  cases ru'
  obtain ⟨its, rv, p1⟩ := sqk_items I1 qx
  obtain ⟨its2, rv2, p2⟩ := sqk_items I1 qy
  obtain ⟨o1, B1, g1⟩ := begins_k k a its.toArray
  obtain ⟨o2, B2, g2⟩ := begins_k l b its2.toArray
  have la : a < s1.heap.objs.size := by
    cases k with
    | true => obtain ⟨o, e, _⟩ := (show s1.heap.IsTuple a its.toArray from p1); exact Heap.lt_size e
    | false => obtain ⟨o, e, _⟩ := (show s1.heap.IsList a its.toArray from p1); exact Heap.lt_size e
  have lb : b < s1.heap.objs.size := by
    cases l with
    | true => obtain ⟨o, e, _⟩ := (show s1.heap.IsTuple b its2.toArray from p2); exact Heap.lt_size e
    | false => obtain ⟨o, e, _⟩ := (show s1.heap.IsList b its2.toArray from p2); exact Heap.lt_size e
  refine zip_begins2 B1 B2 p1 p2 fun h' hz hTI hTO h1 h2 hsz hk => wpAny_pyIter_zip hz ?_
  have I2 : Inv X pins σ H1 { s1 with heap := h' } := I1.kept (t' := s1.toks) hk
  have S := zip_sep2 (N := s1.heap.objs.size) (fp1 := [a]) (fp2 := [b]) (fun c hc => by simp at hc; rw [hc]; exact la) (fun c hc => by simp at hc; rw [hc]; exact lb)
  have na : a ≠ s1.heap.objs.size := Nat.ne_of_lt la
  have nb : b ≠ s1.heap.objs.size + 1 := Nat.ne_of_lt (Nat.lt_succ_of_lt lb)
  refine ⟨s1.heap.objs.size + 4, [s1.heap.objs.size + 4, s1.heap.objs.size + 2, s1.heap.objs.size + 3, s1.heap.objs.size, s1.heap.objs.size + 1], _, _, H1, rfl, I2, turn_zipQ S na nb, ⟨hz, hTI, ⟨_, _, hTO⟩, g1 _ _ h1, g2 _ _ h2⟩, fun c hcm => ?_, q⟩
  have hle : s1.heap.objs.size ≤ c := by
    have e' : c = s1.heap.objs.size + 4 ∨ c = s1.heap.objs.size + 2 ∨ c = s1.heap.objs.size + 3 ∨ c = s1.heap.objs.size ∨ c = s1.heap.objs.size + 1 := by simpa using hcm
    rcases e' with z | z | z | z | z
    · rw [z]; exact Nat.le_add_right _ _
    · rw [z]; exact Nat.le_add_right _ _
    · rw [z]; exact Nat.le_add_right _ _
    · rw [z]; exact Nat.le_refl _
    · rw [z]; exact Nat.le_add_right _ _
  exact I1.fpOk hle (I1.hok.fresh hle)
theorem walk_zipQ {K : PySem.W.Frag} {k l : Bool} {a b : Addr} {xs ys : List V} {n : Nat} (hn : n = min xs.length ys.length) :
    Walk (ItzQ K k l a b xs ys) n (fun H => SqK k K H a xs ∧ SqK l K H b ys) (YPair (fun i => xs[i]?) (fun i => ys[i]?)) := by
  subst hn
  refine ⟨fun i _ hi q => ⟨q.1, q.2, by omega, by omega⟩, fun _ q => ⟨q.1, q.2, by omega, by omega, by omega⟩, fun i H v H' _ q y => ?_⟩
  obtain ⟨T, x, y, h1, h2, h3, h4, h5⟩ := y
  exact ⟨T, x, y, h1, h2, h3, h4, h5⟩
end Pv

/-! Pv, part D: what an expression's reading is; when an expression of the text is one of the small language. -/
namespace Pv
open PySem PySem.Spec PyProof.Rows L2
variable [TabC]

/-! ### readings -/
def Pst (EX : Str → List D → Prop) (K : D → Prop) : R → Prop
  | .ok d => K d
  | .ex k ds => EX k ds
  | .bad => False
section
variable {EX : Str → List D → Prop} {K K' : D → Prop}
theorem Pst.bind {r : R} {f : D → R} (h : Pst EX K (r.bind f)) : Pst EX (fun x => Pst EX K (f x)) r := by
  cases r <;> exact h
theorem Pst.imp {r : R} (h : Pst EX K r) (i : ∀ d, K d → K' d) : Pst EX K' r := by
  cases r with
  | ok d => exact i d h
  | ex k ds => exact h
  | bad => exact h
theorem Pst.arg {r : R} {f : List D → R} (h : Pst EX K (argD r f)) : Pst EX (fun d => ∃ ds, d = .tup ds ∧ Pst EX K (f ds)) r := by
  cases r with
  | ok d =>
    cases d with
    | tup ds => exact ⟨ds, rfl, h⟩
    | _ => exact h.elim
  | ex k ds => exact h
  | bad => exact h
theorem Pst.cons {a b : R} (h : Pst EX K (consD a b)) : Pst EX (fun x => Pst EX (fun d => ∃ ds, d = .tup ds ∧ K (.tup (x :: ds))) b) a := by
  cases a with
  | ok x =>
    cases b with
    | ok d =>
      cases d with
      | tup ds => exact ⟨ds, rfl, h⟩
      | _ => exact h.elim
    | ex k ds => exact h
    | bad => exact h
  | ex k ds => cases b <;> exact h
  | bad => cases b <;> exact h
end

/-- what a value is known to be, made since H -/
def RO (T : Tb) (c : Cfg) (t : OT) (W : List Addr) (H H' : Hp) (v : V) (d : D) : Prop := ∃ f : List Addr, f.Nodup ∧ New H f ∧ Own T (c.A H' (W ++ f)) H' t f v d
def ROL (T : Tb) (c : Cfg) (ts : List OT) (W : List Addr) (H H' : Hp) (vs : List V) (ds : List D) : Prop := ∃ f : List Addr, f.Nodup ∧ New H f ∧ OwnL T (c.A H' (W ++ f)) H' ts f vs ds
/-- the text's own facts that an expression leans on -/
structure Ct where
  T : Tb
  S : Sem1
  xc : Cfg
  EX : Str → List D → Prop
def rE (C : Ct) (Γ : List OT) (t : OT) (e : IE) : TE := fun σ H Q => ∃ c fs env, SO C.T c Γ fs H σ env ∧ C.xc.Sm H ∧
  Pst C.EX (fun d => ∀ v H', Ev H H' → RO C.T c t fs.flatten H H' v d → Q v H') (ev C.S env e)
def rA (C : Ct) (Γ : List OT) (ts : List OT) (e : IE) : TA := fun σ H Q => ∃ c fs env, SO C.T c Γ fs H σ env ∧ C.xc.Sm H ∧
  Pst C.EX (fun d => ∀ ds vs H', d = .tup ds → Ev H H' → ROL C.T c ts fs.flatten H H' vs ds → Q vs H') (ev C.S env e)
def rT (C : Ct) (Γ : List OT) (e : IE) : TT := fun σ H Q => ∃ c fs env, SO C.T c Γ fs H σ env ∧ C.xc.Sm H ∧
  Pst C.EX (fun d => ∃ b, d = .bl b ∧ ∀ H', Ev H H' → Q b H') (ev C.S env e)


section
variable {T : Tb} {c : Cfg} {Γ : List OT} {fs : List (List Addr)} {H H1 H2 : Hp} {σ : L2.St} {env : Env} {t : OT} {v : V} {d : D} {W : List Addr}
theorem RO.later (r : RO T c t fs.flatten H H1 v d) (so : SO T c Γ fs H1 σ env) (s : Ev H1 H2) : RO T c t fs.flatten H H2 v d := by
  obtain ⟨f, nf, nw, o⟩ := r
  exact ⟨f, nf, nw, o.mono (Cfg.A_mono s) fun a _ ob n h => s.at_ h n⟩
theorem RO.same (r : RO T c t W H1 H2 v d) (s : Ev H H1) : RO T c t W H H2 v d := by
  obtain ⟨f, nf, nw, o⟩ := r
  exact ⟨f, nf, fun a h => s.free (nw a h), o⟩
/-- it may stand still -/
theorem RO.rep (r : RO T c t fs.flatten H H1 v d) (so : SO T c Γ fs H σ env) : Rep T (c.A H1 fs.flatten) v d := by
  obtain ⟨f, nf, nw, o⟩ := r
  obtain ⟨n1, n2, _⟩ := so.new nw
  refine o.rep (msk_mono (Same.refl _) fun a q => q.elim (fun z => .inl (.inl z)) fun z => .inl (.inr (List.mem_append_left _ z))) fun a ha ob h => msk_some.mpr ⟨fun q => q.elim (n1 a ha) (n2 a ha), h⟩
theorem ROL.rep {ts : List OT} {vs : List V} {ds : List D} (r : ROL T c ts fs.flatten H H1 vs ds) (so : SO T c Γ fs H σ env) : RepA T (c.A H1 fs.flatten) vs ds := by
  obtain ⟨f, nf, nw, o⟩ := r
  obtain ⟨n1, n2, _⟩ := so.new nw
  refine o.rep (msk_mono (Same.refl _) fun a q => q.elim (fun z => .inl (.inl z)) fun z => .inl (.inr (List.mem_append_left _ z))) fun a ha ob h => msk_some.mpr ⟨fun q => q.elim (n1 a ha) (n2 a ha), h⟩
theorem RO.of_rep (r : Rep T (c.A H1 W) v d) : RO T c .fz W H H1 v d := ⟨[], List.nodup_nil, (fun a h => by cases h), .fz (by rw [List.append_nil]; exact r)⟩
theorem RO.fz (r : RO T c t fs.flatten H H1 v d) (so : SO T c Γ fs H σ env) : RO T c .fz fs.flatten H H1 v d := .of_rep (r.rep so)
theorem RO.int {i : Int} (r : RO T c t W H H1 v (.int i)) : v = .int i := by
  obtain ⟨f, _, _, o⟩ := r
  cases o with
  | fz r => cases r; rfl
theorem RO.bl {i : Bool} (r : RO T c t W H H1 v (.bl i)) : v = .bl i := by
  obtain ⟨f, _, _, o⟩ := r
  cases o with
  | fz r => cases r; rfl
theorem RO.str {i : Str} (r : RO T c t W H H1 v (.str i)) : v = .str i := by
  obtain ⟨f, _, _, o⟩ := r
  cases o with
  | fz r => cases r; rfl
theorem RO.mkInt {i : Int} : RO T c .fz W H H1 (.int i) (.int i) := .of_rep (.int i)
theorem RO.mkBl {i : Bool} : RO T c .fz W H H1 (.bl i) (.bl i) := .of_rep (.bl i)
/-- a new list of what stands still -/
theorem RO.mkL {p : Addr} {vs : List V} {ds : List D} (so : SO T c Γ fs H1 σ env) (s : Ev H H1) (np : H1 p = none) (r : RepA T (c.A H1 fs.flatten) vs ds) :
    RO T c (.ol .fz) fs.flatten H (upd H1 p (.lst vs)) (.ref p) (.lst ds) := by
  refine ⟨[p], by simp, fun a h => by rw [List.mem_singleton] at h; rw [h]; exact s.free np, ?_⟩
  have e : [p] = p :: [] := rfl
  refine .ol upd_same (.of_rep (r.mono (Same.of2 fun a o h => ?_)))
  obtain ⟨h1, h2⟩ := msk_some.mp h
  refine msk_some.mpr ⟨fun q => ?_, by rw [upd_ne (ne_of_none h2 np)]; exact h2⟩
  rcases q with q | q
  · exact h1 (.inl q)
  · rcases List.mem_append.mp q with q | q
    · exact h1 (.inr q)
    · rw [List.mem_singleton] at q
      rw [q, np] at h2
      cases h2
theorem RO.mkT {p : Addr} {vs : List V} {ds : List D} (so : SO T c Γ fs H1 σ env) (np : H1 p = none) (r : RepA T (c.A H1 fs.flatten) vs ds) :
    RO T c .fz fs.flatten H (upd H1 p (.tup vs)) (.ref p) (.tup ds) := by
  refine .of_rep (.tup (.of (msk_some.mpr ⟨fun q => ?_, upd_same⟩)) (r.mono (Same.of2 fun a o h => ?_)))
  · exact q.elim (fun z => so.dm p z np) fun z => so.dom p z np
  · obtain ⟨h1, h2⟩ := msk_some.mp h
    exact msk_some.mpr ⟨h1, by rw [upd_ne (ne_of_none h2 np)]; exact h2⟩
/-- a new tuple of what is owned -/
theorem RO.mkO {p : Addr} {ts : List OT} {vs : List V} {ds : List D} (so : SO T c Γ fs H σ env) (s : Ev H H1) (np : H1 p = none) (r : ROL T c ts fs.flatten H H1 vs ds) :
    RO T c (.ot ts) fs.flatten H (upd H1 p (.tup vs)) (.ref p) (.tup ds) := by
  obtain ⟨f, nf, nw, o⟩ := r
  have hpf : p ∉ f := fun h => o.dom p h np
  refine ⟨p :: f, List.nodup_cons.mpr ⟨hpf, nf⟩, fun a h => (List.mem_cons.mp h).elim (fun e => by rw [e]; exact s.free np) (nw a), .ot upd_same (o.mono (Same.of2 fun a ob h => ?_) fun a ha ob _ h => ?_)⟩
  · obtain ⟨h1, h2⟩ := msk_some.mp h
    refine msk_some.mpr ⟨fun q => ?_, by rw [upd_ne (ne_of_none h2 np)]; exact h2⟩
    rcases q with q | q
    · exact h1 (.inl q)
    · rcases List.mem_append.mp q with q | q
      · exact h1 (.inr (List.mem_append_left _ q))
      · rcases List.mem_cons.mp q with q | q
        · rw [q, np] at h2; cases h2
        · exact h1 (.inr (List.mem_append_right _ q))
  · rw [upd_ne (ne_of_none h np)]; exact h
end

/-! ### the text's tables, and the look -/
structure Gt where
  fn : List Str
  ps : List (List Str)
  rt : List OT
  bl : List Str
  gl : List (Str × D)
  gc : Bool
  lv : Nat
  lc : Bool := false
  gs : List Str := []
  /-- the defs that may be called by their places -/
  pl : List Nat := []
  /-- nothing is handled -/
  cm : Bool := true
  /-- what is lent to each def: as what it comes, as what it goes -/
  lt : List (Option (OT × OT)) := []
  /-- classes with their makers; methods; properties; names that a class has not -/
  mkc : List (Str × Nat) := []
  me : List (Str × Str × Nat) := []
  pr : List (Str × Str × Nat) := []
  na : List (Str × Str) := []
  /-- how a def may be called: positional ones, keywords, defaults -/
  sh : List (Nat × Nat × List Str × List D) := []
  shm : List (Nat × Nat × List Str × List D) := []
  /-- exception classes; which is one of which; the refusing def and what it calls -/
  xc : List Str := []
  /-- exception classes that have no maker of their own -/
  xo : List Str := []
  xs : List (Str × Str × Bool) := []
  rf : Str := ""
  /-- may lambdas be handed to it here; the def that it calls of what it catches -/
  la : Bool := false
  hw : Nat := 0
def visB (sc : Scope) (x : Str) : Bool := match sc.names.lookup x with
  | some .local => true | some .cell => true | some .free => true | _ => false
def locB (sc : Scope) (x : Str) : Bool := match sc.names.lookup x with
  | some .local => true | _ => false
def glB (sc : Scope) (x : Str) : Bool := match sc.names.lookup x with
  | some .globalImplicit => true | _ => false
def okN (x : Str) : Bool := !(x == ("__debug__" : Str)) && !(x == ("__classdict__" : Str)) && !decide (x = "__name__")
theorem visB_of {sc : Scope} {x : Str} (h : visB sc x = true) : Vis sc x := by
  unfold visB at h
  split at h
  · rename_i e; exact .inl e
  · rename_i e; exact .inr (.inl e)
  · rename_i e; exact .inr (.inr e)
  · cases h
theorem locB_of {sc : Scope} {x : Str} (h : locB sc x = true) : sc.names.lookup x = some .local := by
  unfold locB at h
  split at h
  · rename_i e; exact e
  · cases h
theorem glB_of {sc : Scope} {x : Str} (h : glB sc x = true) : sc.names.lookup x = some .globalImplicit := by
  unfold glB at h
  split at h
  · rename_i e; exact e
  · cases h
theorem okN_of {x : Str} (h : okN x = true) : (x == ("__debug__" : Str)) = false ∧ (x == ("__classdict__" : Str)) = false ∧ x ≠ "__name__" := by
  unfold okN at h
  simp only [Bool.and_eq_true, Bool.not_eq_true', decide_eq_false_iff_not] at h
  exact ⟨h.1.1, h.1.2, h.2⟩
mutual
def D.beq : D → D → Bool
  | .non, .non => true
  | .bl a, .bl b => a == b
  | .int a, .int b => a == b
  | .str a, .str b => decide (a = b)
  | .tup a, .tup b => D.beqA a b
  | .lst a, .lst b => D.beqA a b
  | _, _ => false
def D.beqA : List D → List D → Bool
  | [], [] => true
  | a :: as, b :: bs => D.beq a b && D.beqA as bs
  | _, _ => false
end
mutual
theorem D.beq_of : ∀ {a b : D}, D.beq a b = true → a = b
  | .non, b, h => by cases b <;> simp [D.beq] at h <;> rfl
  | .bl x, b, h => by cases b <;> simp [D.beq] at h; rw [h]
  | .int x, b, h => by cases b <;> simp [D.beq] at h; rw [h]
  | .str x, b, h => by cases b <;> simp [D.beq] at h; rw [h]
  | .tup x, b, h => by cases b <;> simp [D.beq] at h; rw [D.beqA_of h]
  | .lst x, b, h => by cases b <;> simp [D.beq] at h; rw [D.beqA_of h]
  | .scr x, b, h => by cases b <;> simp [D.beq] at h
  | .obj x y z, b, h => by cases b <;> simp [D.beq] at h
  | .exc x y, b, h => by cases b <;> simp [D.beq] at h
theorem D.beqA_of : ∀ {a b : List D}, D.beqA a b = true → a = b
  | [], b, h => by cases b <;> simp [D.beqA] at h; rfl
  | x :: xs, b, h => by
    cases b with
    | nil => simp [D.beqA] at h
    | cons y ys =>
      simp only [D.beqA, Bool.and_eq_true] at h
      rw [D.beq_of h.1, D.beqA_of h.2]
end
/-- a written constant -/
def cstB : D → PySem.Const → Bool
  | .non, .none => true
  | .bl a, .bool b => a == b
  | .int i, .int j => i == j
  | .str x, .str y => decide (x = y)
  | _, _ => false
def binB : BOp → Operator → Bool
  | .add, .Add | .sub, .Sub | .mul, .Mult | .fdiv, .FloorDiv | .mod, .Mod | .pow, .Pow => true
  | _, _ => false
def copB : COp → CmpOp → Bool
  | .eq, .Eq | .ne, .NotEq | .lt, .Lt | .le, .LtE | .gt, .Gt | .ge, .GtE => true
  | _, _ => false
/-- is it an expression that may stand as an argument -/
def plainX : Expr → Bool
  | .Starred .. => false
  | _ => true
def noSl : Expr → Bool
  | .Slice .. => false
  | _ => true
def typN : Blt → Option String
  | .isBool => some "bool" | .isInt => some "int" | .isTuple => some "tuple" | .isList => some "list" | .isStr => some "str"
  | _ => none
def bltN : Blt → Option Str
  | .len => some "len" | .abs => some "abs" | .int => some "int" | .min => some "min" | .max => some "max" | .list => some "list" | .tuple => some "tuple"
  | _ => none
def inB (x : Str) (l : List Str) : Bool := l.any fun y => decide (y = x)
theorem inB_of {x : Str} {l : List Str} (h : inB x l = true) : x ∈ l := by
  unfold inB at h
  rw [List.any_eq_true] at h
  obtain ⟨y, hy, e⟩ := h
  exact of_decide_eq_true e ▸ hy
def tyX (G : Gt) : XOp → OT
  | .mk _ j => (match (G.lt[j]?).getD none with | some (_, t) => t | none => .fz)
  | .kmk _ j _ _ _ => (match (G.lt[j]?).getD none with | some (_, t) => t | none => .fz)
  | .srt => .ol .fz
  | .kcall j _ _ _ => (G.rt[j]?).getD .fz
  | .mth _ _ => .fz
  | _ => .fz
mutual
/-- how a value of this expression is held -/
def tyE (G : Gt) (Γ : List OT) : IE → OT
  | .vr i => (Γ[i]?).getD .fz
  | .ls _ => .ol .fz
  | .tp as => .ot (tyL G Γ as)
  | .call f _ => (G.rt[f]?).getD .fz
  | .blt .list _ => .ol .fz
  | .lc _ _ _ _ => .ol .fz
  | .x o _ => tyX G o
  | .ix a (.ct (.int (.ofNat k))) => match tyE G Γ a with
    | .ot ts => (ts[k]?).getD .fz
    | _ => .fz
  | _ => .fz
def tyL (G : Gt) (Γ : List OT) : IE → List OT
  | .cons e a => tyE G Γ e :: tyL G Γ a
  | _ => []
end
def OT.isFz : OT → Bool
  | .fz => true
  | _ => false
def setAll {α : Type} (x : α) (l : List α) : List Nat → List α
  | [] => l
  | v :: vs => setAll x (l.set v x) vs
/-- every name that is read stands still -/
def okE (Γ : List OT) : IE → Bool
  | .vr i => ((Γ[i]?).getD .fz).isFz
  | .ct _ => true
  | .gl _ _ => true
  | .nil => true
  | .cons e a => okE Γ e && okE Γ a
  | .tp as => okE Γ as
  | .ls as => okE Γ as
  | .bin _ a b => okE Γ a && okE Γ b
  | .neg a => okE Γ a
  | .cmp _ a b => okE Γ a && okE Γ b
  | .cmp2 _ _ a b c => okE Γ a && okE Γ b && okE Γ c
  | .isN a => okE Γ a
  | .ntN a => okE Γ a
  | .and a b => okE Γ a && okE Γ b
  | .or a b => okE Γ a && okE Γ b
  | .not a => okE Γ a
  | .ife c a b => okE Γ c && okE Γ a && okE Γ b
  | .call _ as => okE Γ as
  | .blt .len (.cons (.vr _) .nil) => true
  | .blt _ as => okE Γ as
  | .ix (.vr i) k => (match (Γ[i]?).getD .fz with | .fz => true | .ol .fz => true | _ => false) && okE Γ k
  | .ix a k => okE Γ a && okE Γ k
  | .sl a l h => okE Γ a && okE Γ l && okE Γ h
  | .slF a l => okE Γ a && okE Γ l
  | .slT a h => okE Γ a && okE Γ h
  | .it _ as => okE Γ as
  | .x _ as => okE Γ as
  | .refd _ _ e => okE Γ e
  | .lc e t it c => okE Γ it && (t.own.all fun i => ((Γ[i]?).getD .fz).isFz) && okE Γ e && okE Γ c
end Pv

/-! Pv, part E: the look at expressions; the operators' rules. -/
namespace Pv
open PySem PySem.Spec PyProof.Rows L2
variable [TabC]

def noSet : Expr → Bool
  | .Set .. => false
  | _ => true
/-- nothing is lent to it -/
def ltN (G : Gt) (j : Nat) : Bool := match (G.lt[j]?).getD none with | none => true | some _ => false
theorem ltN_of {G : Gt} {j : Nat} (h : ltN G j = true) : (G.lt[j]?).getD none = none := by
  unfold ltN at h
  split at h
  · assumption
  · cases h
/-- built-ins that may be called while something is handled -/
def calmB : Blt → Bool
  | .min | .max => false
  | _ => true
/-- not a call that super might be -/
def noSup : Expr → Bool
  | .Call .. => false
  | _ => true
def noAttr : Expr → Bool
  | .Attribute .. => false
  | _ => true
def kwNames : List Keyword → Option (List Str)
  | [] => some []
  | ⟨some n, _, _⟩ :: ks => (kwNames ks).map (n :: ·)
  | ⟨none, _, _⟩ :: _ => none
def kwVals (ks : List Keyword) : List Expr := ks.map (·.value)
def inC (neg : Bool) : CmpOp → Bool
  | .In => !neg
  | .NotIn => neg
  | _ => false
def pairB (l : List (Str × Str)) (c f : Str) : Bool := l.any fun p => decide (p.1 = c) && decide (p.2 = f)
def trpB (l : List (Str × Str × Nat)) (c f : Str) (j : Nat) : Bool := l.any fun q => decide (q.1 = c) && decide (q.2.1 = f) && decide (q.2.2 = j)
def mkB (l : List (Str × Nat)) (c : Str) (j : Nat) : Bool := l.any fun q => decide (q.1 = c) && decide (q.2 = j)
def shB (l : List (Nat × Nat × List Str × List D)) (j n : Nat) (ks : List Str) (ds : List D) : Bool := l.any fun q => decide (q.1 = j) && decide (q.2.1 = n) && decide (q.2.2.1 = ks) && D.beqA q.2.2.2 ds
def xsB (l : List (Str × Str × Bool)) (c q : Str) (b : Bool) : Bool := l.any fun p => decide (p.1 = c) && decide (p.2.1 = q) && decide (p.2.2 = b)
/-- is the expression such an operation, and of what -/
def matX (G : Gt) (N : List Str) (sc : Scope) : XOp → Expr → Option (List Expr)
  | .fld f cs, .Attribute e g _ => if decide (f = g) && noSup e && plainX e && (cs.all fun c => pairB G.na c f) then some [e] else none
  | .prp f js, .Attribute e g _ => if !js.isEmpty && decide (f = g) && noSup e && plainX e && G.cm && (js.all fun p => G.pl.contains p.2 && decide (p.2 + 1 < G.lv) && trpB G.pr p.1 f p.2) then some [e] else none
  | .mth m js, .Call (.Attribute o g ap) es [] pos => if !js.isEmpty && decide (m = g) && noSup o && plainX o && G.cm && (ap.endLine == pos.line) && decide (es.length < 29) && (js.all fun p => G.pl.contains p.2 && decide (p.2 < G.lv) && trpB G.me p.1 m p.2) then some (o :: es) else none
  | .mk c j, .Call (.Name x _) es [] _ => if decide (c = x) && glB sc x && okN x && G.cm && G.pl.contains j && decide (j + 1 < G.lv) && mkB G.mkc c j then some es else none
  | .kmk c j n ks ds, .Call (.Name x _) es kws _ => if decide (c = x) && glB sc x && okN x && G.cm && decide (j + 1 < G.lv) && mkB G.mkc c j && decide (es.length = n) && decide (kwNames kws = some ks) && !(ks.isEmpty && ds.isEmpty) && shB G.shm j n ks ds then some (es ++ kwVals kws) else none
  | .kcall j n ks ds, .Call (.Name x _) es kws _ => if glB sc x && okN x && G.cm && decide (j < G.lv) && decide (G.fn[j]? = some x) && inB x G.gs && decide (es.length = n) && decide (0 < n) && decide (kwNames kws = some ks) && !(ks.isEmpty && ds.isEmpty) && shB G.sh j n ks ds then some (es ++ kwVals kws) else none
  | .obc js, .Call fe (e :: es) [] _ => if !js.isEmpty && noAttr fe && plainX fe && G.cm && (js.all fun p => G.pl.contains p.2 && decide (p.2 < G.lv) && trpB G.me p.1 "__call__" p.2) then some (fe :: e :: es) else none
  | .inO neg js, .Compare x [op] [y] _ => if inC neg op && noSet y && G.cm && (js.all fun p => G.pl.contains p.2 && decide (p.2 < G.lv) && trpB G.me p.1 "__contains__" p.2) then some [x, y] else none
  | .inS neg, .Compare x [op] [y] _ => if inC neg op && noSet y then some [x, y] else none
  | .lcm, .Call (.Name x _) [a, b] [] _ => if G.lc && decide (x = "lcm") && glB sc x then some [a, b] else none
  | .srt, .Call (.Name x _) [a] [] _ => if decide (x = "sorted") && glB sc x && inB x G.bl then some [a] else none
  | .isC q yes, .Call (.Name x _) [a, .Name n _] [] _ => if decide (x = "isinstance") && glB sc x && inB x G.bl && decide (n = q) && glB sc n && okN n && plainX a && !G.cm && (G.xc.all fun c => xsB G.xs c q (yes.contains c)) then some [a] else none
  | .lcnt, .Call (.Attribute o g ap) [a] [] pos => if decide (g = "count") && noSup o && plainX o && (ap.endLine == pos.line) then some [o, a] else none
  | .lidx, .Call (.Attribute o g ap) [a] [] pos => if decide (g = "index") && noSup o && plainX o && (ap.endLine == pos.line) then some [o, a] else none
  | _, _ => none
/-- a lambda without parameters -/
def noPar : Arguments → Bool
  | ⟨[], [], none, [], [], none, []⟩ => true
  | _ => false
def blkOwn (N : List Str) (t : Tg) : List (Str × Nat) := t.own.map fun i => ((N[i]?).getD "", i)
mutual
def chkG (N : List Str) (sc : Scope) (fb : Str → Bool) : Tg → Expr → Bool
  | .nm i, .Name x _ => decide (N[i]? = some x) && (match sc.names.lookup x with | some .local => true | some .cell => fb x | _ => false)
  | .tp t, .Tuple es _ _ => chkGs N sc fb t es
  | _, _ => false
def chkGs (N : List Str) (sc : Scope) (fb : Str → Bool) : Tg → List Expr → Bool
  | .nil, [] => true
  | .cons t ts, e :: es => plainX e && chkG N sc fb t e && chkGs N sc fb ts es
  | _, _ => false
end
mutual
def chkE (G : Gt) (N : List Str) (sc : Scope) : IE → Expr → Bool
  | .vr i, .Name x _ => decide (N[i]? = some x) && visB sc x && okN x
  | .ct d, .Constant c _ _ => cstB d c
  | .gl x d, .Name y _ => decide (x = y) && glB sc y && okN y && G.gl.any fun p => decide (p.1 = y) && D.beq p.2 d
  | .tp as, .Tuple es _ _ => chkA G N sc as es
  | .ls as, .List es _ => chkA G N sc as es
  | .bin o a b, .BinOp x op y _ => binB o op && chkE G N sc a x && chkE G N sc b y
  | .neg a, .UnaryOp .USub x _ => chkE G N sc a x
  | .cmp o a b, .Compare x [op] [y] _ => copB o op && chkE G N sc a x && chkE G N sc b y
  | .cmp2 o p a b c, .Compare x [op, op'] [y, z] _ => copB o op && copB p op' && chkE G N sc a x && chkE G N sc b y && chkE G N sc c z
  | .isN a, .Compare x [.Is] [.Constant .none _ _] _ => chkE G N sc a x
  | .ntN a, .Compare x [.IsNot] [.Constant .none _ _] _ => chkE G N sc a x
  | .and a b, .BoolOp .And [x, y] _ => chkE G N sc a x && chkE G N sc b y
  | .and a b, .BoolOp .And (x :: y :: z :: r) _ => chkE G N sc a x && chkO G N sc .And b (y :: z :: r)
  | .or a b, .BoolOp .Or [x, y] _ => chkE G N sc a x && chkE G N sc b y
  | .or a b, .BoolOp .Or (x :: y :: z :: r) _ => chkE G N sc a x && chkO G N sc .Or b (y :: z :: r)
  | .not a, .UnaryOp .Not x _ => chkE G N sc a x
  | .ife c a b, .IfExp z x y _ => chkE G N sc c z && chkE G N sc a x && chkE G N sc b y
  | .call j as, .Call (.Name x _) es [] _ => G.pl.contains j && G.cm && ltN G j && decide (j < G.lv) && decide (G.fn[j]? = some x) && inB x G.gs && glB sc x && okN x && chkA G N sc as es
  | .blt .gcd as, .Call (.Name x _) (e :: es) [] _ => G.gc && decide (x = "gcd") && glB sc x && chkA G N sc as (e :: es)
  | .blt b (.cons a .nil), .Call (.Name x _) [e, .Name ty _] [] _ => (match typN b with
    | some tn => decide (x = "isinstance") && glB sc x && inB x G.bl && decide (ty = Str.ofString tn) && glB sc ty && inB ty G.bl && plainX e && chkE G N sc a e
    | none => false)
  | .blt b as, .Call (.Name x _) (e :: es) [] _ => (match bltN b with
    | some y => decide (x = y) && glB sc x && inB x G.bl && (G.cm || calmB b) && chkA G N sc as (e :: es)
    | none => false)
  | .ix a i, .Subscript x y _ => noSl y && chkE G N sc a x && chkE G N sc i y
  | .sl a lo hi, .Subscript x (.Slice (some l) (some h) none _) _ => chkE G N sc a x && chkE G N sc lo l && chkE G N sc hi h
  | .slF a lo, .Subscript x (.Slice (some l) none none _) _ => chkE G N sc a x && chkE G N sc lo l
  | .slT a hi, .Subscript x (.Slice none (some h) none _) _ => chkE G N sc a x && chkE G N sc hi h
  | .lc e t it c, .ListComp x [⟨tg, iter, ifs, 0⟩] scope _ => G.cm && blkC N sc scope (blkOwn N t) && noSet iter && chkI G N sc it tg iter && chkG N (relS scope sc) (fun x => scope.names.lookup x == some .cell) t tg && chkE G N (relS scope sc) e x && (match ifs with
    | [] => (match c with | .nil => true | _ => false)
    | [i] => (match c with | .nil => false | _ => chkE G N (relS scope sc) c i)
    | _ => false)
  | .x o as, e => (match matX G N sc o e with | some es => chkA G N sc as es | none => false)
  | .refd w cs e, .Call (.Name x _) [.Lambda ps body scope _] [] _ => G.cm && G.la && decide (x = G.rf) && glB sc x && okN x && noPar ps && LamX.lamSB sc scope && decide (w = G.hw) && decide (w + 2 ≤ G.lv) && (cs.all fun c => inB c G.xc) && chkE { G with lv := G.lv - 2, la := false } N scope e body
  | _, _ => false
def chkA (G : Gt) (N : List Str) (sc : Scope) : IE → List Expr → Bool
  | .nil, [] => true
  | .cons e a, x :: xs => plainX x && chkE G N sc e x && chkA G N sc a xs
  | _, _ => false
/-- the rest of an and, an or, of two parts or more -/
def chkO (G : Gt) (N : List Str) (sc : Scope) (op : PySem.BoolOp) : IE → List Expr → Bool
  | .and a b, [y, z] => (match op with | .And => true | _ => false) && chkE G N sc a y && chkE G N sc b z
  | .or a b, [y, z] => (match op with | .Or => true | _ => false) && chkE G N sc a y && chkE G N sc b z
  | .and a b, y :: z :: w :: r => (match op with | .And => true | _ => false) && chkE G N sc a y && chkO G N sc op b (z :: w :: r)
  | .or a b, y :: z :: w :: r => (match op with | .Or => true | _ => false) && chkE G N sc a y && chkO G N sc op b (z :: w :: r)
  | _, _ => false
/-- what is gone through -/
def chkI (G : Gt) (N : List Str) (sc : Scope) : IE → Expr → Expr → Bool
  | .it .rng (.cons a .nil), _, .Call (.Name x _) [e] [] _ => decide (x = "range") && glB sc x && inB x G.bl && plainX e && chkE G N sc a e
  | .it .rng (.cons a (.cons b .nil)), _, .Call (.Name x _) [e, f] [] _ => decide (x = "range") && glB sc x && inB x G.bl && plainX e && plainX f && chkE G N sc a e && chkE G N sc b f
  | .it .zip (.cons a (.cons b .nil)), .Tuple _ _ _, .Call (.Name x _) [e, f] [] _ => decide (x = "zip") && glB sc x && inB x G.bl && plainX e && plainX f && chkE G N sc a e && chkE G N sc b f
  | .it .enu (.cons a .nil), .Tuple _ _ _, .Call (.Name x _) [e] [] _ => decide (x = "enumerate") && glB sc x && inB x G.bl && plainX e && chkE G N sc a e
  | .it .rev (.cons a .nil), _, .Call (.Name x _) [e] [] _ => decide (x = "reversed") && glB sc x && inB x G.bl && plainX e && chkE G N sc a e
  | .it .val (.cons a .nil), _, e => plainX e && chkE G N sc a e
  | _, _, _ => false
end
end Pv

/-! Pv, part F: each form of expression: its rule over plain data. -/
namespace Pv
open PySem PySem.Spec PyProof.Rows L2
variable [TabC]

theorem PE.imp {X : Cx} {e : Expr} {t t' : TE} (h : PE X e t) (i : ∀ σ H Q, t' σ H Q → t σ H Q) : PE X e t' := ⟨fun pins s σ H Q I q => h.run pins s σ H Q I (i σ H Q q)⟩
theorem PT.imp {X : Cx} {e : Expr} {t t' : TT} (h : PT X e t) (i : ∀ σ H Q, t' σ H Q → t σ H Q) : PT X e t' := ⟨fun pins s σ H Q I q => h.run pins s σ H Q I (i σ H Q q)⟩
theorem PW.imp {X : Cx} {e : Expr} {t t' : TT} (h : PW X e t) (i : ∀ σ H Q, t' σ H Q → t σ H Q) : PW X e t' := ⟨fun wh pins s σ H Q I q => h.run wh pins s σ H Q I (i σ H Q q)⟩
theorem PA.imp {X : Cx} {e : List Expr} {t t' : TA} (h : PA X e t) (i : ∀ σ H Q, t' σ H Q → t σ H Q) : PA X e t' := ⟨fun p pins s σ H Q I q => h.run p pins s σ H Q I (i σ H Q q)⟩
theorem CallR.or {X : Cx} {f : Value} {r r' : List V → Hp → VK → Prop} (h : CallR X f r) (h' : CallR X f r') : CallR X f (fun xs H Q => r xs H Q ∨ r' xs H Q) := fun pins s σ H xs us Q I rx q =>
  q.elim (h pins s σ H xs us Q I rx) (h' pins s σ H xs us Q I rx)
theorem IxR.or {X : Cx} {r r' : R2} (h : IxR X r) (h' : IxR X r') : IxR X (fun x y H Q => r x y H Q ∨ r' x y H Q) := fun e f pins s σ H x y v u Q I rx ry q hs =>
  q.elim (fun z => h e f pins s σ H x y v u Q I rx ry z hs) (fun z => h' e f pins s σ H x y v u Q I rx ry z hs)

/-! ### what may be called, what the context is -/
/-- an exception as plain data: its class, its fields -/
def ExR (T : Tb) (nw : Addr → Prop) (H : Hp) (cl : Value) (dx : Option Addr) (k : Str) (es : List D) : Prop := ∃ a, cl = .ref a ∧ T.cls k = some a ∧ ((es = [] ∧ dx = none) ∨ ∃ d fs, dx = some d ∧ nw d ∧ H d = some (.xd fs) ∧ fs.map (·.1) = T.xf k ∧ RepA T H (fs.map (·.2)) es ∧ es ≠ [] ∧ es.all D.flat = true)
theorem ExR.back {T : Tb} {nw nw' : Addr → Prop} {H : Hp} {cl : Value} {dx : Option Addr} {k : Str} {es : List D} (x : ExR T nw H cl dx k es) (b : ∀ d, nw d → nw' d) : ExR T nw' H cl dx k es := by
  obtain ⟨a, h1, h2, h⟩ := x
  refine ⟨a, h1, h2, h.imp id fun ⟨d, fs, e1, e2, e3⟩ => ⟨d, fs, e1, b d e2, e3⟩⟩
/-- a def's promise, over plain data -/
def spS (T : Tb) (S : Sem1) (t : OT) (n : Nat) (j : Nat) : Sp := fun vs H Q E => ∃ (U : Addr → Prop) (ds : List D), (∀ a, U a → H a ≠ none) ∧ RepA T (msk H U) vs ds ∧ vs.length = n ∧ LamX.Tabs TabC.tl H ∧ (match S j ds with
  | .ok d => ∀ v H' (f : List Addr), Ev H H' → f.Nodup → New H f → Own T (msk H' fun a => U a ∨ a ∈ f) H' t f v d → Q v H'
  | .ex k es => ∀ cl dx H', Ev H H' → ExR T (fun d => H d = none) H' cl dx k es → E cl dx H'
  | .bad => False)
/-- all that stood stands, but what is lent -/
structure EvL (f0 : List Addr) (H H' : Hp) : Prop where
  at_ : ∀ {a o}, H a = some o → (∀ ps, o ≠ .tbl ps) → a ∉ f0 → H' a = some o
  tb : ∀ {a ps}, H a = some (.tbl ps) → ∃ ps', H' a = some (.tbl ps')
  ta : LamX.Tabs TabC.tl H → LamX.Tabs TabC.tl H'
/-- the promise of a def to which its first argument is lent -/
def spL (T : Tb) (S : Sem1) (t0 t1 : OT) (n : Nat) (j : Nat) : Sp := fun vs H Q E => ∃ (U : Addr → Prop) (v0 : V) (us : List V) (d0 : D) (ds : List D) (f0 : List Addr), vs = v0 :: us ∧ (∀ a, U a → H a ≠ none) ∧ (∀ a ∈ f0, ¬ U a) ∧ f0.Nodup ∧
  Own T (msk H fun a => U a ∨ a ∈ f0) H t0 f0 v0 d0 ∧ RepA T (msk H fun a => U a ∨ a ∈ f0) us ds ∧ us.length + 1 = n ∧ LamX.Tabs TabC.tl H ∧ (match S j (d0 :: ds) with
  | .ok (.tup [d, d1]) => ∀ v H' (f1 : List Addr), EvL f0 H H' → f1.Nodup → (∀ a ∈ f1, H a = none ∨ a ∈ f0) → Own T (msk H' fun a => U a ∨ a ∈ f1) H' t1 f1 v0 d1 → Rep T (msk H' fun a => U a ∨ a ∈ f1) v d → Q v H'
  | .ex k es => ∀ cl dx H', EvL f0 H H' → ExR T (fun d => H d = none ∨ d ∈ f0) H' cl dx k es → E cl dx H'
  | _ => False)
def spJ (G : Gt) (T : Tb) (S : Sem1) (n j : Nat) : Sp := match (G.lt[j]?).getD none with
  | none => spS T S ((G.rt[j]?).getD .fz) n j
  | some (t0, t1) => spL T S t0 t1 n j
/-- what stands behind a def of the text -/
structure DefOk (G : Gt) (T : Tb) (S : Sem1) (P : Program) (w : World) (mg : Str → Option Value) (base : Heap) (j : Nat) (f : Addr) (fd : FuncData) (ps : List Str) : Prop where
  ps_ : G.ps[j]? = some ps
  kp : PySem.W.keepIn T.K (.ref f) = true
  bd : G.pl.contains j = true → Binds T.K fd ps []
  len : ∀ ds, S j ds ≠ .bad → ds.length = ps.length
  ok : FnOk P w T.K mg base (L2.CX P w) (j + 1) f fd ps (spJ G T S ps.length j)
/-- a def called where p's exception is handled: it lets nothing out -/
def HotRun (P : Program) (w : World) (K : PySem.W.Frag) (mg : Str → Option Value) (base : Heap) (k : Nat) (p : Addr × Obj) (f : Addr) (fd : FuncData) (ps : List Str) (sp : Sp) : Prop :=
  ∀ (A : Around) (outer : List PySem.Env) (s : Shared) (H : Hp) (args : Args) (us : List Value) (vs : List V) (Q : VK), L2H.RoomH k A → L2H.PinOk outer H s p → Env0 P w K mg base A outer s H → BindsTo s fd args (ps.zip us) → Vals vs us → sp vs H Q C8.E0 →
    codeAny (model P w) A (.call (.ref f) args) (CR C8.CX0 outer P w H s Q C8.E0) s
/-- the same table, the exception at a handled: its class, its dict -/
def Tb.hot (T : Tb) (a : Addr) (c : Str) (dx : Option Addr) : Tb := { T with xa := fun b => if b = a then some (c, dx) else none }
def HotOk (G : Gt) (T : Tb) (S : Sem1) (P : Program) (w : World) (mg : Str → Option Value) (base : Heap) (j : Nat) (f : Addr) (fd : FuncData) (ps : List Str) : Prop :=
  ∀ (p : Addr × Obj) (c : Str) (C0 : Addr) (dx : Option Addr), c ∈ G.xc → T.cls c = some C0 → Zc (.ref C0) dx p.2 → (∃ vs, p.2.data = .fields vs) → HotRun P w T.K mg base (j + 1) p f fd ps (spS (T.hot p.1 c dx) S .fz ps.length j)
/-- what a name of a class tells -/
def NameV (mg : Str → Option Value) (n : Str) (v : V) (cv : Value) : Prop := (∃ D, mg n = some (.ref D) ∧ v = .ref D ∧ cv = .ref D) ∨ (mg n = none ∧ n = "ValueError" ∧ v = .ty "ValueError" ∧ cv = .type "ValueError")
def XsOk (T : Tb) (mg : Str → Option Value) (q : Str × Str × Bool) : Prop := ∃ C0 v cv, T.cls q.1 = some C0 ∧ ExcC T.K C0 ∧ NameV mg q.2.1 v cv ∧ PySem.W.kitOne T.K (.ref C0) cv = some q.2.2
/-- the body of the def that calls what it gets and tells of the error: the caught class, the teller -/
def refB (st : Stmt) : Option (Str × Str) := match defBody st with
  | [.Try [.Expr (.Call (.Name a _) [] [] _) _] [.ExceptHandler (some (.Name cn _)) (some n) [.Return (some (.Call (.Name wn _) [.Name n' _] [] _)) _] _] [] [] _, .Return (some (.Constant .none _ _)) _] =>
    if decide (a = "call") && decide (n = "e") && decide (n' = "e") && locB (defScope st) "call" && locB (defScope st) "e" && glB (defScope st) cn && glB (defScope st) wn && okN cn && okN wn then some (cn, wn) else none
  | _ => none
/-- what is known of that def -/
def RefOk (G : Gt) (T : Tb) (S : Sem1) (P : Program) (w : World) (mg : Str → Option Value) (base : Heap) : Prop := ∃ (g f CS : Addr) (st : Stmt) (gd fd : FuncData) (ps : List Str) (cn wn : Str),
  mg G.rf = some (.ref g) ∧ FunD T.K G.rf G.rf (defArgs st) (defBody st) (defScope st) [] [] g gd ∧ FnScope ["call", "e"] ["call"] (defScope st) ∧ Binds T.K gd ["call"] [] ∧ refB st = some (cn, wn) ∧
  mg cn = some (.ref CS) ∧ (∀ c ∈ G.xc, ∃ C0, T.cls c = some C0 ∧ PySem.W.exmOne T.K (.ref C0) (.ref CS) = some true) ∧
  mg wn = some (.ref f) ∧ PySem.W.keepIn T.K (.ref f) = true ∧ Binds T.K fd ps [] ∧ ps.length = 1 ∧ HotOk G T S P w mg base G.hw f fd ps
structure FF (G : Gt) (T : Tb) (S : Sem1) (n : Nat) (P : Program) (w : World) (mg : Str → Option Value) (base : Heap) : Prop where
  fn : ∀ (j : Nat) (x : Str), j < n → G.fn[j]? = some x → x ∈ G.gs → ∃ (f : Addr) (fd : FuncData) (ps : List Str), mg x = some (.ref f) ∧ DefOk G T S P w mg base j f fd ps
  gl : ∀ p ∈ G.gl, ∃ v u, mg p.1 = some u ∧ RelV v u ∧ ∀ H, Rep T H v p.2
  bl : ∀ x ∈ G.bl, mg x = none
  gc : G.gc = true → mg "gcd" = some (.builtin "math.gcd")
  lc : G.lc = true → mg "lcm" = some (.builtin "math.lcm")
  me : ∀ q ∈ G.me, q.2.2 < n → ∃ C f fd ps, T.cls q.1 = some C ∧ Cls T.K C ∧ Meth T.K C q.2.1 f ∧ PySem.W.fnIn T.K f = true ∧ DefOk G T S P w mg base q.2.2 f fd ps ∧ (G.lt[q.2.2]?).getD none = none
  pr : ∀ q ∈ G.pr, q.2.2 < n → ∃ C p f fd ps, T.cls q.1 = some C ∧ Cls T.K C ∧ PropOf T.K C q.2.1 p f ∧ DefOk G T S P w mg base q.2.2 f fd ps ∧ (G.lt[q.2.2]?).getD none = none ∧ ((G.rt[q.2.2]?).getD .fz) = .fz
  mkc : ∀ q ∈ G.mkc, q.2 < n → ∃ C f fd ps t, T.cls q.1 = some C ∧ mg q.1 = some (.ref C) ∧ Mk T.K C f ∧ DefOk G T S P w mg base q.2 f fd ps ∧ (G.lt[q.2]?).getD none = some (.oi [] [], t)
  na : ∀ q ∈ G.na, ∃ C, T.cls q.1 = some C ∧ Cls T.K C ∧ NoAttr T.K C q.2
  sh : ∀ q ∈ G.sh, q.1 < n → ∀ x, G.fn[q.1]? = some x → x ∈ G.gs → ∃ (f : Addr) (fd : FuncData) (ps : List Str) (dvs : List V) (dV : List Value), mg x = some (.ref f) ∧ DefOk G T S P w mg base q.1 f fd ps ∧ Vals dvs dV ∧ (∀ H, RepA T H dvs q.2.2.2) ∧ q.2.1 + q.2.2.1.length + dvs.length = ps.length ∧
    (q.2.2.1 = [] → Binds T.K fd ps dV) ∧ (q.2.2.1 ≠ [] → KBn T.K fd ps q.2.1 q.2.2.1 (fun us ws => us ++ ws ++ dV) (fun vs zs => vs ++ zs ++ dvs)) ∧ (G.lt[q.1]?).getD none = none
  shm : ∀ q ∈ G.shm, q.1 < n → ∀ c, (c, q.1) ∈ G.mkc → ∃ C f fd ps t dvs dV, T.cls c = some C ∧ mg c = some (.ref C) ∧ Mk T.K C f ∧ DefOk G T S P w mg base q.1 f fd ps ∧ (G.lt[q.1]?).getD none = some (.oi [] [], t) ∧ Vals dvs dV ∧ (∀ H, RepA T H dvs q.2.2.2) ∧ q.2.1 + 1 + q.2.2.1.length + dvs.length = ps.length ∧
    (q.2.2.1 = [] → Binds T.K fd ps dV) ∧ (q.2.2.1 ≠ [] → KBn T.K fd ps (q.2.1 + 1) q.2.2.1 (fun us ws => us ++ ws ++ dV) (fun vs zs => vs ++ zs ++ dvs))
  xo : ∀ c ∈ G.xo, ∃ C, T.cls c = some C ∧ mg c = some (.ref C) ∧ PySem.W.excIn T.K C He.veBase "ValueError.__new__" = true ∧ PySem.W.keepIn T.K (.ref C) = true ∧ PySem.W.subIn T.K (.ref C) (.type "BaseException") = some true ∧ PySem.W.typeIn T.K (.ref C) = some (.type "type")
  xs : ∀ q ∈ G.xs, XsOk T mg q
  rfd : G.la = true → RefOk G T S P w mg base
def EXK (C : Ct) : XK := fun cl dx H' => ∃ k es, ExR C.T (fun d => C.xc.H0 d = none ∨ d ∈ C.xc.W0) H' cl dx k es ∧ C.xc.Sm H' ∧ C.EX k es
/-- something is handled: which exception -/
def HotX (G : Gt) (C : Ct) (X : Cx) : Prop := ∃ (p : Addr × Obj) (c : Str) (C0 : Addr) (dx : Option Addr), p ∈ X.pn ∧ c ∈ G.xc ∧ C.T.cls c = some C0 ∧ Zc (.ref C0) dx p.2 ∧ (∃ vs, p.2.data = .fields vs) ∧ C.T.xa = fun b => if b = p.1 then some (c, dx) else none
/-- lambdas may be made -/
def LamOk (X : Cx) : Prop := ∃ c P, LamX.TabB X.base X.mg c P ∧ X.env.code = .ref c ∧ (P, X.env.qual ++ "<lambda>") ∈ TabC.tl ∧ ∀ p ∈ TabC.tl, p.1 = P → p.2 = X.env.qual ++ "<lambda>"
theorem Cfg.Sm.nw {c : Cfg} {H : Hp} (h : c.Sm H) (d : Addr) (n : H d = Option.none) : c.H0 d = Option.none ∨ d ∈ c.W0 := by
  by_cases k : d ∈ c.W0
  · exact .inr k
  · exact .inl (h.none k n)
structure XF (G : Gt) (C : Ct) (N : List Str) (sc : Scope) (X : Cx) : Prop where
  K : X.K = C.T.K
  calm : G.cm = true → X.calm = true
  nd : N.Nodup
  N : X.N = N
  sc : X.env.scope = sc
  room : L2H.RoomH G.lv X.A
  cmr : G.cm = true → X.A.handled = none
  ff : FF G C.T C.S G.lv X.prog X.w X.mg X.base
  hx : Passes (L2.CX X.prog X.w) X (EXK C)
  tb : LamX.Tabs TabC.tl C.xc.H0
  lam : G.la = true → LamOk X
  hot : G.cm = false → HotX G C X
section
variable {G : Gt} {C : Ct} {N : List Str} {sc : Scope} {X : Cx} {Γ : List OT}
theorem XF.rm (F : XF G C N sc X) (h : G.cm = true) : Room G.lv X.A := ⟨F.cmr h, F.room.dp, F.room.un⟩
theorem XF.hu (F : XF G C N sc X) : X.A.units + 64 < cLine := by have := F.room.un; omega
theorem XF.gl (F : XF G C N sc X) {x : Str} (h : glB sc x = true) : Gl X x := by
  have := glB_of h
  rw [← F.sc] at this
  exact this
theorem XF.vis (F : XF G C N sc X) {x : Str} (h : visB sc x = true) : Vis X.env.scope x := by
  rw [F.sc]; exact visB_of h

/-! ### names, constants -/
theorem snd_vr (F : XF G C N sc X) {i : Nat} {x : Str} {pos : Pos} (hN : N[i]? = some x) (hv : visB sc x = true) (ok : okN x = true) (hz : ((Γ[i]?).getD .fz).isFz = true) : PE X (.Name x pos) (rE C Γ ((Γ[i]?).getD .fz) (.vr i)) := by
  obtain ⟨o1, o2, o3⟩ := okN_of ok
  refine PE.imp (pe_var (i := i) (by rw [F.N]; exact hN) (F.vis hv) o1 o2) fun σ H Q h => ?_
  obtain ⟨c, fs, env, so, sm, p⟩ := h
  simp only [ev] at p
  split at p
  · rename_i d e
    obtain ⟨v, t, f, h1, h2, h3, o⟩ := so.sl.get e
    rw [h2] at hz p
    refine ⟨v, h1, p v H (Ev.refl H) ?_⟩
    cases t with
    | fz =>
      cases o with
      | fz r => exact .of_rep r
    | ol t => cases hz
    | ot t => cases hz
    | oi t => cases hz
  · exact p.elim
theorem snd_ct (F : XF G C N sc X) {d : D} {k : PySem.Const} {j : Nat} {pos : Pos} (h : cstB d k = true) : PE X (.Constant k j pos) (rE C Γ .fz (.ct d)) := by
  have fin : ∀ {v : V}, (∀ H, Rep C.T H v d) → ∀ σ H Q, rE C Γ .fz (.ct d) σ H Q → tC v σ H Q := fun {v} r σ H Q h => by
    obtain ⟨c, fs, env, so, sm, p⟩ := h
    exact p v H (Ev.refl H) (.of_rep (r _))
  cases d with
  | non =>
    cases k with
    | none => exact PE.imp pe_non (fin fun _ => .non)
    | _ => cases h
  | bl b =>
    cases k with
    | bool b' =>
      have e : b = b' := by simpa [cstB] using h
      subst e
      exact PE.imp pe_bl (fin fun _ => .bl b)
    | _ => cases h
  | int b =>
    cases k with
    | int b' =>
      have e : b = b' := by simpa [cstB] using h
      subst e
      exact PE.imp pe_int (fin fun _ => .int b)
    | _ => cases h
  | str b =>
    cases k with
    | str b' =>
      have e : b = b' := of_decide_eq_true h
      subst e
      exact PE.imp pe_str (fin fun _ => .str b)
    | _ => cases h
  | _ => cases k <;> cases h
theorem snd_gl (F : XF G C N sc X) {x : Str} {d : D} {pos : Pos} (hg : glB sc x = true) (ok : okN x = true) (hm : (x, d) ∈ G.gl) : PE X (.Name x pos) (rE C Γ .fz (.gl x d)) := by
  obtain ⟨o1, o2, o3⟩ := okN_of ok
  obtain ⟨v, u, e, r, k⟩ := F.ff.gl _ hm
  refine PE.imp (pe_glob (F.gl hg) e r o1) fun σ H Q h => ?_
  obtain ⟨c, fs, env, so, sm, p⟩ := h
  exact p v H (Ev.refl H) (.of_rep (k _))

/-! ### two operands -/
/-- the state behind two operands, and what is still wanted of f -/
def Two (C : Ct) (Γ : List OT) (ta tb t : OT) (f : D → D → R) (Q : VK) (H : Hp) (v w : V) (H2 : Hp) : Prop := ∃ c fs env σ x y, SO C.T c Γ fs H σ env ∧ SO C.T c Γ fs H2 σ env ∧ C.xc.Sm H2 ∧ Ev H H2 ∧
  RO C.T c ta fs.flatten H H2 v x ∧ RO C.T c tb fs.flatten H H2 w y ∧ Pst C.EX (fun d => ∀ v' H', Ev H2 H' → RO C.T c t fs.flatten H2 H' v' d → Q v' H') (f x y)
theorem rE_two {a b : IE} {ta tb t : OT} {f : D → D → R} {σ : L2.St} {H : Hp} {Q : VK}
    (h : ∃ c fs env, SO C.T c Γ fs H σ env ∧ C.xc.Sm H ∧ Pst C.EX (fun d => ∀ v H', Ev H H' → RO C.T c t fs.flatten H H' v d → Q v H') ((ev C.S env a).bind fun x => (ev C.S env b).bind fun y => f x y)) :
    rE C Γ ta a σ H fun v H1 => rE C Γ tb b σ H1 fun w H2 => Two C Γ ta tb t f Q H v w H2 := by
  obtain ⟨c, fs, env, so, sm, p⟩ := h
  refine ⟨c, fs, env, so, sm, p.bind.imp fun x px v H1 s1 r1 => ?_⟩
  refine ⟨c, fs, env, so.mono s1, sm.mono s1, px.bind.imp fun y py w H2 s2 r2 => ?_⟩
  exact ⟨c, fs, env, σ, x, y, so, (so.mono s1).mono s2, (sm.mono s1).mono s2, s1.trans s2, r1.later (so.mono s1) s2, r2.same s1, py.imp fun d k v' H' s3 r3 => k v' H' ((s1.trans s2).trans s3) (r3.same (s1.trans s2))⟩
theorem snd_op {op : Operator} {r : R2} {x y : Expr} {pos : Pos} {a b : IE} {ta tb t : OT} {f : D → D → R} {e : IE} (ho : OpR X (binaryOp op) r) (ha : PE X x (rE C Γ ta a)) (hb : PE X y (rE C Γ tb b))
    (he : ∀ env, ev C.S env e = (ev C.S env a).bind fun x => (ev C.S env b).bind fun y => f x y) (hr : ∀ H v w H2 Q, Two C Γ ta tb t f Q H v w H2 → r v w H2 Q) : PE X (.BinOp x op y pos) (rE C Γ t e) :=
  PE.imp (pe_op ho ha hb) fun σ H Q h => by
    obtain ⟨c, fs, env, so, sm, p⟩ := h
    rw [he] at p
    have q := rE_two (ta := ta) (tb := tb) ⟨c, fs, env, so, sm, p⟩
    obtain ⟨c, fs, env, so, sm, p⟩ := q
    refine ⟨c, fs, env, so, sm, p.imp fun d k v H1 s1 r1 => ?_⟩
    obtain ⟨c, fs, env, so, sm, p⟩ := k v H1 s1 r1
    exact ⟨c, fs, env, so, sm, p.imp fun d k v H1 s1 r1 => hr _ _ _ _ _ (k v H1 s1 r1)⟩
/-- the same where operands are of another form (comparisons, subscripts) -/
theorem two_imp {a b : IE} {ta tb t : OT} {f : D → D → R} {e : IE} {r : R2} (he : ∀ env, ev C.S env e = (ev C.S env a).bind fun x => (ev C.S env b).bind fun y => f x y)
    (hr : ∀ H v w H2 Q, Two C Γ ta tb t f Q H v w H2 → r v w H2 Q) (σ : L2.St) (H : Hp) (Q : VK) (h : rE C Γ t e σ H Q) : tOp r (rE C Γ ta a) (rE C Γ tb b) σ H Q := by
  obtain ⟨c, fs, env, so, sm, p⟩ := h
  rw [he] at p
  have q := rE_two (ta := ta) (tb := tb) ⟨c, fs, env, so, sm, p⟩
  obtain ⟨c, fs, env, so, sm, p⟩ := q
  refine ⟨c, fs, env, so, sm, p.imp fun d k v H1 s1 r1 => ?_⟩
  obtain ⟨c, fs, env, so, sm, p⟩ := k v H1 s1 r1
  exact ⟨c, fs, env, so, sm, p.imp fun d k v H1 s1 r1 => hr _ _ _ _ _ (k v H1 s1 r1)⟩

/-! ### the operators -/
def CDivX (_ j : Int) : Prop := j ≠ 0 ∧ j.natAbs.log2 < 9000
theorem op_fdivX : OpR X (binaryOp .FloorDiv) (rI CDivX fun i j => .int (i.fdiv j)) := opI fun _ _ _ _ _ _ _ hc q => floordiv_int hc.1 q (.inl (PyProof.noPylong_of_log2 hc.2))
theorem lim_le : lim ≤ sizeLine := by rw [sizeLine_eq]; decide
section
variable {ta tb : OT} {f : D → D → R} {Q : VK} {H H2 : Hp} {v w : V}
theorem two_int {o : BOp} {C' : Int → Int → Prop} {g : Int → Int → Int} (hf : ∀ x y, binD o x y ≠ .bad → (∀ k es, binD o x y ≠ .ex k es) ∧ ((∃ i j, x = .int i ∧ y = .int j ∧ C' i j ∧ binD o x y = .ok (.int (g i j)))))
    (h : Two C Γ ta tb .fz (binD o) Q H v w H2) : rI C' (fun i j => .int (g i j)) v w H2 Q := by
  obtain ⟨c, fs, env, σ, x, y, so0, so, sm, s, rx, ry, p⟩ := h
  have nb : binD o x y ≠ .bad := fun e => by rw [e] at p; exact p
  obtain ⟨_, i, j, rfl, rfl, hc, e⟩ := hf x y nb
  rw [e] at p
  rw [rx.int, ry.int]
  exact ⟨i, j, rfl, rfl, hc, p _ _ (Ev.refl H2) .mkInt⟩
end
def rTrue : Int → Int → Prop := fun _ _ => True
theorem rI_0 {g : Int → Int → V} {v w : V} {H : Hp} {Q : VK} (h : rI rTrue g v w H Q) : rI0 g v w H Q := by
  obtain ⟨i, j, e1, e2, _, q⟩ := h
  exact ⟨i, j, e1, e2, q⟩
theorem snd_bin (F : XF G C N sc X) {o : BOp} {op : Operator} {x y : Expr} {pos : Pos} {a b : IE} {ta tb : OT} (hop : binB o op = true) (ha : PE X x (rE C Γ ta a)) (hb : PE X y (rE C Γ tb b)) : PE X (.BinOp x op y pos) (rE C Γ .fz (.bin o a b)) := by
  have he : ∀ env, ev C.S env (.bin o a b) = (ev C.S env a).bind fun x => (ev C.S env b).bind fun y => binD o x y := fun _ => rfl
  cases o with
  | sub =>
    cases op with
    | Sub =>
      refine snd_op op_sub ha hb he fun H v w H2 Q t => rI_0 (two_int (o := .sub) (g := fun i j => i - j) (fun x y nb => ?_) t)
      cases x <;> cases y <;> first | exact absurd rfl nb | exact ⟨fun _ _ z => (nomatch z), _, _, rfl, rfl, trivial, rfl⟩
    | _ => cases hop
  | fdiv =>
    cases op with
    | FloorDiv =>
      refine snd_op op_fdivX ha hb he fun H v w H2 Q t => two_int (o := .fdiv) (g := fun i j => i.fdiv j) (fun x y nb => ?_) t
      cases x <;> cases y <;> first
        | exact absurd rfl nb
        | (rename_i i j
           by_cases hd : divOk j = true
           · have hd' := hd
             unfold divOk at hd'
             simp only [Bool.and_eq_true, bne_iff_ne, decide_eq_true_eq] at hd'
             have e : binD .fdiv (.int i) (.int j) = .ok (.int (i.fdiv j)) := by simp [binD, hd]
             exact ⟨(fun _ _ z => by rw [e] at z; cases z), i, j, rfl, rfl, hd', e⟩
           · exact absurd (by simp [binD, hd]) nb)
    | _ => cases hop
  | mod =>
    cases op with
    | Mod =>
      refine snd_op op_modN ha hb he fun H v w H2 Q t => two_int (o := .mod) (g := fun i j => i.fmod j) (fun x y nb => ?_) t
      cases x <;> cases y <;> first
        | exact absurd rfl nb
        | (rename_i i j
           by_cases hd : j = 0
           · exact absurd (by simp [binD, hd]) nb
           · have e : binD .mod (.int i) (.int j) = .ok (.int (i.fmod j)) := by simp [binD, hd]
             exact ⟨(fun _ _ z => by rw [e] at z; cases z), i, j, rfl, rfl, hd, e⟩)
    | _ => cases hop
  | pow =>
    cases op with
    | Pow =>
      refine snd_op op_pow ha hb he fun H v w H2 Q t => two_int (o := .pow) (g := fun i j => i ^ j.toNat) (fun x y nb => ?_) t
      cases x <;> cases y <;> first
        | exact absurd rfl nb
        | (rename_i i j
           by_cases hd : powOk i j = true
           · have hd' := hd
             unfold powOk at hd'
             simp only [Bool.and_eq_true, decide_eq_true_eq] at hd'
             have e : binD .pow (.int i) (.int j) = .ok (.int (i ^ j.toNat)) := by simp [binD, hd]
             exact ⟨(fun _ _ z => by rw [e] at z; cases z), i, j, rfl, rfl, ⟨hd'.1.1, hd'.1.2, hd'.2⟩, e⟩
           · exact absurd (by simp [binD, hd]) nb)
    | _ => cases hop
  | mul =>
    cases op with
    | Mult =>
      refine snd_op (op_mulW.or op_rep) ha hb he fun H v w H2 Q t => ?_
      obtain ⟨c, fs, env, σ, x, y, so0, so, sm, s, rx, ry, p⟩ := t
      cases x with
      | int i =>
        cases y with
        | int j =>
          by_cases hm : mulOk i j = true
          · simp only [binD, hm, if_true] at p
            refine .inl ⟨i, j, rx.int, ry.int, (by simpa [mulOk, CMulW] using hm), p _ _ (Ev.refl H2) .mkInt⟩
          · simp only [binD, hm] at p
            exact p.elim
        | _ => exact p.elim
      | lst l =>
        cases y with
        | int k =>
          simp only [binD] at p
          split at p
          · rename_i hk
            unfold mkL at p
            split at p
            · rename_i hl
              have rl := rx.rep so0
              cases rl with
              | lst hv ra =>
                rename_i q vs
                have hlen := ra.length
                refine .inr ⟨q, k, vs, rfl, ry.int, (msk_some.mp hv).2, by omega, by omega, ?_, fun p' np => p _ _ (same_upd np) ?_⟩
                · refine Nat.le_trans ?_ lim_le
                  rw [List.length_flatten, List.map_replicate, List.sum_replicate_nat] at hl
                  rw [hlen, Nat.mul_comm]; exact hl
                · exact (RO.mkL so (Ev.refl H2) np (ra.rep k.toNat)).fz so
            · exact p.elim
          · exact p.elim
        | _ => exact p.elim
      | _ => exact p.elim
    | _ => cases hop
  | add =>
    cases op with
    | Add =>
      refine snd_op (op_add.or (op_cat.or op_catA)) ha hb he fun H v w H2 Q t => ?_
      obtain ⟨c, fs, env, σ, x, y, so0, so, sm, s, rx, ry, p⟩ := t
      cases x with
      | int i =>
        cases y with
        | int j => exact .inl ⟨i, j, rx.int, ry.int, p _ _ (Ev.refl H2) .mkInt⟩
        | _ => exact p.elim
      | lst l =>
        cases y with
        | lst m =>
          simp only [binD, mkL] at p
          split at p
          · rename_i hl
            have r1 := rx.rep so0
            have r2 := ry.rep so0
            cases r1 with
            | lst h1 a1 =>
              cases r2 with
              | lst h2 a2 =>
                have l1 := a1.length
                have l2 := a2.length
                rw [List.length_append] at hl
                refine .inr (.inl ⟨_, _, _, _, rfl, rfl, (msk_some.mp h1).2, (msk_some.mp h2).2, Nat.le_trans (by omega) lim_le, fun p' np => p _ _ (same_upd np) ?_⟩)
                exact (RO.mkL so (Ev.refl H2) np (a1.append a2)).fz so
          · exact p.elim
        | _ => exact p.elim
      | tup l =>
        cases y with
        | tup m =>
          simp only [binD, mkT] at p
          split at p
          · rename_i hl
            have r1 := rx.rep so0
            have r2 := ry.rep so0
            cases r1 with
            | tup h1 a1 =>
              cases r2 with
              | tup h2 a2 =>
                have l1 := a1.length
                have l2 := a2.length
                rw [List.length_append] at hl
                rw [F.K]
                refine .inr (.inr ⟨_, _, _, _, rfl, rfl, seqT msk_same h1, seqT msk_same h2, Nat.le_trans (by omega) lim_le, fun e => ?_, fun e1 e2 => ?_, fun e1 e2 p' np => p _ _ (same_upd np) (.mkT so np (a1.append a2))⟩)
                · subst e
                  cases a1
                  exact p _ _ (Ev.refl H2) (.of_rep (.tup h2 a2))
                · subst e2
                  cases a2
                  refine p _ _ (Ev.refl H2) (.of_rep ?_)
                  rw [List.append_nil]
                  exact .tup h1 a1
          · exact p.elim
        | _ => exact p.elim
      | _ => exact p.elim
    | _ => cases hop
theorem snd_neg (F : XF G C N sc X) {x : Expr} {pos : Pos} {a : IE} {ta : OT} (ha : PE X x (rE C Γ ta a)) : PE X (.UnaryOp .USub x pos) (rE C Γ .fz (.neg a)) :=
  PE.imp (pe_un un_neg ha) fun σ H Q h => by
    obtain ⟨c, fs, env, so, sm, p⟩ := h
    refine ⟨c, fs, env, so, sm, (Pst.bind p).imp fun x k v H1 s1 r1 => ?_⟩
    cases x with
    | int i => exact ⟨i, r1.int, k _ _ s1 .mkInt⟩
    | _ => exact k.elim
end
end Pv

/-! Pv, part G: comparisons, and, or, not, displays, calls, subscripts. -/
namespace Pv
open PySem PySem.Spec PyProof.Rows L2
variable [TabC]

mutual
theorem Rep.dp {T : Tb} {H : Hp} : ∀ {v : V} {d : D} {p : PyData}, Rep T H v d → D.py d = some p → Dp T.K H v p
  | _, _, _, .non, e => by cases e; exact .non
  | _, _, _, .bl b, e => by cases e; exact .bl b
  | _, _, _, .int i, e => by cases e; exact .int i
  | _, _, _, .str s, e => by cases e; exact .str s
  | _, _, _, .tup h r, e => by
    simp only [D.py, Option.map_eq_some_iff] at e
    obtain ⟨ps, e, rfl⟩ := e
    exact .tup h (RepA.dp r e)
  | _, _, _, .lst h r, e => by
    simp only [D.py, Option.map_eq_some_iff] at e
    obtain ⟨ps, e, rfl⟩ := e
    exact .lst (.of h) (RepA.dp r e)
  | _, _, _, .scr h, e => by simp [D.py] at e
  | _, _, _, .obj _ _ _ _, e => by simp [D.py] at e
  | _, _, _, .exc0 _, e => by simp [D.py] at e
  | _, _, _, .exc1 _ _ _ _ _, e => by simp [D.py] at e
theorem RepA.dp {T : Tb} {H : Hp} : ∀ {vs : List V} {ds : List D} {ps : List PyData}, RepA T H vs ds → D.pyA ds = some ps → DpAll T.K H vs ps
  | _, _, _, .nil, e => by cases e; exact .nil
  | _, _, _, .cons r t, e => by
    simp only [D.pyA] at e
    split at e
    · rename_i e1 e2
      cases e
      exact .cons (Rep.dp r e1) (RepA.dp t e2)
    · cases e
end
section
variable {G : Gt} {C : Ct} {N : List Str} {sc : Scope} {X : Cx} {Γ : List OT}

/-! ### comparisons -/
def copR (K : PySem.W.Frag) : COp → R2
  | .eq => rEqD K
  | .ne => rNeD K
  | .lt => rI0 fun i j => .bl (decide (i < j))
  | .le => rI0 fun i j => .bl (decide (i ≤ j))
  | .gt => rI0 fun i j => .bl (decide (j < i))
  | .ge => rI0 fun i j => .bl (decide (j ≤ i))
theorem cop_ok (hu : X.A.units + 64 < cLine) {o : COp} {op : CmpOp} (h : copB o op = true) : OpR X (compareOp op) (copR X.K o) ∧ op ≠ .In ∧ op ≠ .NotIn := by
  cases o with
  | eq =>
    cases op with
    | Eq => exact ⟨op_eqD hu, by decide, by decide⟩
    | _ => cases h
  | ne =>
    cases op with
    | NotEq => exact ⟨op_neD hu, by decide, by decide⟩
    | _ => cases h
  | lt =>
    cases op with
    | Lt => exact ⟨op_lt, by decide, by decide⟩
    | _ => cases h
  | le =>
    cases op with
    | LtE => exact ⟨op_le, by decide, by decide⟩
    | _ => cases h
  | gt =>
    cases op with
    | Gt => exact ⟨op_gt, by decide, by decide⟩
    | _ => cases h
  | ge =>
    cases op with
    | GtE => exact ⟨op_ge, by decide, by decide⟩
    | _ => cases h
theorem eqD_ok {a b : D} (h : eqD a b ≠ .bad) : D.cmpOk a = true ∧ D.cmpOk b = true ∧ D.dp a ≤ 60 ∧ D.dp b ≤ 60 ∧ eqD a b = .ok (.bl (D.eqv a b)) := by
  unfold eqD at h ⊢
  split at h
  · rename_i q
    simp only [Bool.and_eq_true, decide_eq_true_eq] at q
    refine ⟨q.1.1.1, q.1.1.2, q.1.2, q.2, ?_⟩
    rw [if_pos (by simp [q])]
  · exact absurd rfl h
/-- what a comparison asks of two values is met -/
theorem cop_met {o : COp} {ta tb : OT} {c : Cfg} {fs : List (List Addr)} {H H2 : Hp} {σ : L2.St} {env : Env} {v w : V} {x y : D} {Q : VK} {d : D}
    (so : SO C.T c Γ fs H σ env) (rx : RO C.T c ta fs.flatten H H2 v x) (ry : RO C.T c tb fs.flatten H H2 w y) (e : cmpD o x y = .ok d) (q : ∀ b, d = .bl b → Q (.bl b) H2) : copR C.T.K o v w H2 Q := by
  have deep : ∀ {b : Bool}, eqD x y = .ok (.bl b) → ∃ p p', Dp C.T.K H2 v p ∧ Dp C.T.K H2 w p' ∧ SeqAt.shaped p = true ∧ SeqAt.shaped p' = true ∧ PyData.eqv p p' = b := fun {b} e => by
    obtain ⟨o1, o2, d1, d2, e'⟩ := eqD_ok (a := x) (b := y) (fun z => by rw [z] at e; cases e)
    rw [e'] at e
    obtain ⟨p, p1, p2, p3⟩ := D.py_of o1
    obtain ⟨p', q1, q2, q3⟩ := D.py_of o2
    refine ⟨p, p', ((rx.rep so).mono msk_same).dp p1, ((ry.rep so).mono msk_same).dp q1, ?_, ?_, ?_⟩
    · unfold SeqAt.shaped; rw [p2, p3]; simp; omega
    · unfold SeqAt.shaped; rw [q2, q3]; simp; omega
    · rw [D.eqv_py p1 q1]
      cases e
      rfl
  cases o with
  | eq =>
    have e' : eqD x y = .ok d := e
    obtain ⟨_, _, _, _, e2⟩ := eqD_ok (a := x) (b := y) (fun z => by rw [z] at e'; cases e')
    rw [e2] at e'
    cases e'
    obtain ⟨p, p', h1, h2, h3, h4, h5⟩ := deep e2
    exact ⟨p, p', h1, h2, h3, h4, by rw [h5]; exact q _ rfl⟩
  | ne =>
    have e' : notR (eqD x y) = .ok d := e
    obtain ⟨_, _, _, _, e2⟩ := eqD_ok (a := x) (b := y) (fun z => by rw [z] at e'; cases e')
    rw [e2] at e'
    cases e'
    obtain ⟨p, p', h1, h2, h3, h4, h5⟩ := deep e2
    exact ⟨p, p', h1, h2, h3, h4, by rw [h5]; exact q _ rfl⟩
  | _ =>
    cases x <;> first
      | (cases e; done)
      | (cases y <;> first
          | (cases e; done)
          | (cases e; exact ⟨_, _, rx.int, ry.int, q _ rfl⟩))
theorem cmpD_bl {o : COp} {x y d : D} (e : cmpD o x y = .ok d) : ∃ b, d = .bl b := by
  cases o with
  | eq =>
    have e' : eqD x y = .ok d := e
    obtain ⟨_, _, _, _, e2⟩ := eqD_ok (a := x) (b := y) (fun z => by rw [z] at e'; cases e')
    rw [e2] at e'
    cases e'
    exact ⟨_, rfl⟩
  | ne =>
    have e' : notR (eqD x y) = .ok d := e
    obtain ⟨_, _, _, _, e2⟩ := eqD_ok (a := x) (b := y) (fun z => by rw [z] at e'; cases e')
    rw [e2] at e'
    cases e'
    exact ⟨_, rfl⟩
  | _ => cases x <;> first | (cases e; done) | (cases y <;> first | (cases e; done) | (cases e; exact ⟨_, rfl⟩))
theorem cmpD_ex {o : COp} {x y : D} {k : Str} {es : List D} : cmpD o x y ≠ .ex k es := fun e => by
  cases o with
  | eq =>
    have e' : eqD x y = .ex k es := e
    unfold eqD at e'
    split at e' <;> cases e'
  | ne =>
    have e' : notR (eqD x y) = .ex k es := e
    unfold eqD at e'
    split at e' <;> cases e'
  | _ => cases x <;> first | (cases e; done) | (cases y <;> cases e)
theorem cop_two {o : COp} {ta tb : OT} (H : Hp) (v w : V) (H2 : Hp) (Q : VK) (h : Two C Γ ta tb .fz (cmpD o) Q H v w H2) : copR C.T.K o v w H2 Q := by
  obtain ⟨c, fs, env, σ, x, y, so0, so, sm, s, rx, ry, p⟩ := h
  cases e : cmpD o x y with
  | ok d =>
    rw [e] at p
    obtain ⟨b, rfl⟩ := cmpD_bl e
    exact cop_met so0 rx ry e fun b' z => by cases z; exact p _ _ (Ev.refl H2) .mkBl
  | ex k es => exact absurd e cmpD_ex
  | bad => rw [e] at p; exact p.elim
theorem snd_cmp (F : XF G C N sc X) {o : COp} {op : CmpOp} {x y : Expr} {pos : Pos} {a b : IE} {ta tb : OT} (hop : copB o op = true) (ha : PE X x (rE C Γ ta a)) (hb : PE X y (rE C Γ tb b)) : PE X (.Compare x [op] [y] pos) (rE C Γ .fz (.cmp o a b)) := by
  obtain ⟨h1, h2, h3⟩ := cop_ok (X := X) F.hu hop
  rw [F.K] at h1
  exact PE.imp (pe_cmpR h1 ha hb (nomark _ h2 h3)) fun σ H Q h => two_imp (f := cmpD o) (fun _ => rfl) cop_two σ H Q h
/-- as a test -/
def toV (Q : Bool → Hp → Prop) : VK := fun v H => ∃ b, v = .bl b ∧ Q b H
theorem rE_of_rT {e : IE} {σ : L2.St} {H : Hp} {Q : Bool → Hp → Prop} (h : rT C Γ e σ H Q) : rE C Γ .fz e σ H (toV Q) := by
  obtain ⟨c, fs, env, so, sm, p⟩ := h
  refine ⟨c, fs, env, so, sm, p.imp fun d k v H1 s1 r1 => ?_⟩
  obtain ⟨b, rfl, q⟩ := k
  exact ⟨b, r1.bl, q H1 s1⟩
theorem rE_of_rT' {e : IE} {t : OT} {σ : L2.St} {H : Hp} {Q : Bool → Hp → Prop} (h : rT C Γ e σ H Q) : rE C Γ t e σ H (toV Q) := by
  obtain ⟨c, fs, env, so, sm, p⟩ := h
  refine ⟨c, fs, env, so, sm, p.imp fun d k v H1 s1 r1 => ?_⟩
  obtain ⟨b, rfl, q⟩ := k
  exact ⟨b, r1.bl, q H1 s1⟩
theorem sndT_cmp (F : XF G C N sc X) {o : COp} {op : CmpOp} {x y : Expr} {pos : Pos} {a b : IE} {ta tb : OT} (hop : copB o op = true) (ha : PE X x (rE C Γ ta a)) (hb : PE X y (rE C Γ tb b)) : PT X (.Compare x [op] [y] pos) (rT C Γ (.cmp o a b)) := by
  obtain ⟨h1, h2, h3⟩ := cop_ok (X := X) F.hu hop
  rw [F.K] at h1
  exact PT.imp (pt_cmpR h1 ha hb (nomark _ h2 h3)) fun σ H Q h => two_imp (f := cmpD o) (e := .cmp o a b) (fun _ => rfl) cop_two σ H _ (rE_of_rT h)
/-- x < y < z -/
theorem chain_imp {o p : COp} {a b c : IE} {ta tb tc : OT} (σ : L2.St) (H : Hp) (Q : VK) (h : rE C Γ .fz (.cmp2 o p a b c) σ H Q) :
    tChain (copR C.T.K o) (copR C.T.K p) (rE C Γ ta a) (rE C Γ tb b) (rE C Γ tc c) σ H Q := by
  obtain ⟨cf, fs, env, so, sm, q⟩ := h
  refine ⟨cf, fs, env, so, sm, (Pst.bind q).imp fun x px v H1 s1 r1 => ?_⟩
  refine ⟨cf, fs, env, so.mono s1, sm.mono s1, (Pst.bind px).imp fun y py w H2 s2 r2 => ?_⟩
  have rx := r1.later (so.mono s1) s2
  have ry := r2.same s1
  cases e : cmpD o x y with
  | ok d =>
    rw [e] at py
    refine cop_met so rx ry e fun k hk => ⟨k, rfl, ?_⟩
    subst hk
    cases k with
    | true =>
      rw [if_pos rfl]
      refine ⟨cf, fs, env, (so.mono s1).mono s2, (sm.mono s1).mono s2, (Pst.bind py).imp fun z pz u H3 s3 r3 => ?_⟩
      have ry' := (r2.same s1).later (so.mono s1 |>.mono s2) s3
      have rz := r3.same (s1.trans s2)
      cases e2 : cmpD p y z with
      | ok d2 =>
        rw [e2] at pz
        obtain ⟨b2, rfl⟩ := cmpD_bl e2
        exact cop_met so ry' rz e2 fun k hk => by cases hk; exact pz _ _ ((s1.trans s2).trans s3) .mkBl
      | ex k es => exact absurd e2 cmpD_ex
      | bad => rw [e2] at pz; exact pz.elim
    | false =>
      rw [if_neg Bool.false_ne_true]
      exact py _ _ (s1.trans s2) .mkBl
  | ex k es => exact absurd e cmpD_ex
  | bad => rw [e] at py; exact py.elim
theorem snd_cmp2 (F : XF G C N sc X) {o p : COp} {op op' : CmpOp} {x y z : Expr} {pos : Pos} {a b c : IE} {ta tb tc : OT} (hop : copB o op = true) (hop' : copB p op' = true) (ha : PE X x (rE C Γ ta a)) (hb : PE X y (rE C Γ tb b)) (hc : PE X z (rE C Γ tc c)) :
    PE X (.Compare x [op, op'] [y, z] pos) (rE C Γ .fz (.cmp2 o p a b c)) ∧ PT X (.Compare x [op, op'] [y, z] pos) (rT C Γ (.cmp2 o p a b c)) := by
  obtain ⟨h1, h2, h3⟩ := cop_ok (X := X) F.hu hop
  obtain ⟨g1, g2, g3⟩ := cop_ok (X := X) F.hu hop'
  rw [F.K] at h1 g1
  exact ⟨PE.imp (pe_chain h1 g1 ha hb hc (nomark _ g2 g3)) chain_imp, PT.imp (pt_chain h1 g1 ha hb hc (nomark _ g2 g3)) fun σ H Q h => chain_imp σ H _ (rE_of_rT h)⟩
/-- is None -/
theorem non_dec {T : Tb} {c : Cfg} {t : OT} {W : List Addr} {H H' : Hp} {v : V} {d : D} (r : RO T c t W H H' v d) : decide (v = .non) = (match d with | .non => true | _ => false) := by
  obtain ⟨f, _, _, o⟩ := r
  cases o with
  | fz r => cases r <;> rfl
  | ol _ _ => rfl
  | ot _ _ => rfl
  | oi _ _ _ => rfl
theorem snd_isN (F : XF G C N sc X) {x : Expr} {pos p' : Pos} {j : Nat} {a : IE} {ta : OT} (ha : PE X x (rE C Γ ta a)) : PE X (.Compare x [.Is] [.Constant .none j p'] pos) (rE C Γ .fz (.isN a)) ∧ PT X (.Compare x [.Is] [.Constant .none j p'] pos) (rT C Γ (.isN a)) := by
  have k : ∀ σ H Q, rE C Γ .fz (.isN a) σ H Q → tIsN (rE C Γ ta a) σ H Q := fun σ H Q h => by
    obtain ⟨c, fs, env, so, sm, p⟩ := h
    refine ⟨c, fs, env, so, sm, (Pst.bind p).imp fun x k v H1 s1 r1 => ?_⟩
    show Q (V.bl (decide (v = .non))) H1
    rw [non_dec r1]
    cases x <;> exact k _ _ s1 .mkBl
  exact ⟨PE.imp (pe_cmp (pc_isN ha) rfl) k, PT.imp (pt_cmp (pc_isN ha) rfl) fun σ H Q h => k σ H _ (rE_of_rT h)⟩
theorem snd_ntN (F : XF G C N sc X) {x : Expr} {pos p' : Pos} {j : Nat} {a : IE} {ta : OT} (ha : PE X x (rE C Γ ta a)) : PE X (.Compare x [.IsNot] [.Constant .none j p'] pos) (rE C Γ .fz (.ntN a)) ∧ PT X (.Compare x [.IsNot] [.Constant .none j p'] pos) (rT C Γ (.ntN a)) := by
  have k : ∀ σ H Q, rE C Γ .fz (.ntN a) σ H Q → tNotN (rE C Γ ta a) σ H Q := fun σ H Q h => by
    obtain ⟨c, fs, env, so, sm, p⟩ := h
    refine ⟨c, fs, env, so, sm, (Pst.bind p).imp fun x k v H1 s1 r1 => ?_⟩
    show Q (V.bl (!decide (v = .non))) H1
    rw [non_dec r1]
    cases x <;> exact k _ _ s1 .mkBl
  exact ⟨PE.imp (pe_cmp (pc_notN ha) rfl) k, PT.imp (pt_cmp (pc_notN ha) rfl) fun σ H Q h => k σ H _ (rE_of_rT h)⟩

/-! ### and, or, not, if-else -/
/-- a value may be asked for as any kind of holding that it has: what stands still -/
def conj (op : PySem.BoolOp) (a b : IE) : IE := match op with | .And => .and a b | .Or => .or a b
theorem conj_imp {op : PySem.BoolOp} {a b : IE} {ta : OT} (σ : L2.St) (H : Hp) (Q : VK) (h : rE C Γ .fz (conj op a b) σ H Q) :
    rE C Γ ta a σ H fun x H1 => ∃ c, x = .bl c ∧ if c = (op == .And) then rE C Γ .fz b σ H1 Q else Q (.bl c) H1 := by
  obtain ⟨c, fs, env, so, sm, p⟩ := h
  cases op with
  | And =>
    refine ⟨c, fs, env, so, sm, (Pst.bind p).imp fun x k v H1 s1 r1 => ?_⟩
    cases x with
    | bl y =>
      refine ⟨y, r1.bl, ?_⟩
      cases y with
      | true => exact ⟨c, fs, env, so.mono s1, sm.mono s1, Pst.imp k fun d k v H2 s2 r2 => k v H2 (s1.trans s2) (r2.same s1)⟩
      | false => exact k _ _ s1 .mkBl
    | _ => exact k.elim
  | Or =>
    refine ⟨c, fs, env, so, sm, (Pst.bind p).imp fun x k v H1 s1 r1 => ?_⟩
    cases x with
    | bl y =>
      refine ⟨y, r1.bl, ?_⟩
      cases y with
      | false => exact ⟨c, fs, env, so.mono s1, sm.mono s1, Pst.imp k fun d k v H2 s2 r2 => k v H2 (s1.trans s2) (r2.same s1)⟩
      | true => exact k _ _ s1 .mkBl
    | _ => exact k.elim
theorem snd_conj {op : PySem.BoolOp} {x y : Expr} {rest : List Expr} {pos : Pos} {a b : IE} {ta : OT} (ha : PE X x (rE C Γ ta a)) (hb : PE X (.BoolOp op (y :: rest) pos) (rE C Γ .fz b)) : PE X (.BoolOp op (x :: y :: rest) pos) (rE C Γ .fz (conj op a b)) := by
  cases op with
  | And =>
    refine PE.imp (pe_and ha hb) fun σ H Q h => ?_
    obtain ⟨c, fs, env, so, sm, p⟩ := conj_imp (op := .And) (ta := ta) σ H Q h
    exact ⟨c, fs, env, so, sm, p.imp fun d k v H1 s1 r1 => by
      obtain ⟨c, e, q⟩ := k v H1 s1 r1
      refine ⟨c, e, ?_⟩
      cases c <;> exact q⟩
  | Or =>
    refine PE.imp (pe_or ha hb) fun σ H Q h => ?_
    obtain ⟨c, fs, env, so, sm, p⟩ := conj_imp (op := .Or) (ta := ta) σ H Q h
    exact ⟨c, fs, env, so, sm, p.imp fun d k v H1 s1 r1 => by
      obtain ⟨c, e, q⟩ := k v H1 s1 r1
      refine ⟨c, e, ?_⟩
      cases c <;> exact q⟩
theorem conjT_imp {op : PySem.BoolOp} {a b : IE} (σ : L2.St) (H : Hp) (Q : Bool → Hp → Prop) (h : rT C Γ (conj op a b) σ H Q) :
    rT C Γ a σ H fun c H1 => if c = (op == .And) then rT C Γ b σ H1 Q else Q c H1 := by
  obtain ⟨c, fs, env, so, sm, p⟩ := h
  cases op with
  | And =>
    refine ⟨c, fs, env, so, sm, (Pst.bind p).imp fun x k => ?_⟩
    cases x with
    | bl y =>
      refine ⟨y, rfl, fun H1 s1 => ?_⟩
      cases y with
      | true => exact ⟨c, fs, env, so.mono s1, sm.mono s1, Pst.imp k fun d ⟨b, e, q⟩ => ⟨b, e, fun H2 s2 => q H2 (s1.trans s2)⟩⟩
      | false =>
        obtain ⟨b, e, q⟩ := k
        cases e
        exact q H1 s1
    | _ => exact k.elim
  | Or =>
    refine ⟨c, fs, env, so, sm, (Pst.bind p).imp fun x k => ?_⟩
    cases x with
    | bl y =>
      refine ⟨y, rfl, fun H1 s1 => ?_⟩
      cases y with
      | false => exact ⟨c, fs, env, so.mono s1, sm.mono s1, Pst.imp k fun d ⟨b, e, q⟩ => ⟨b, e, fun H2 s2 => q H2 (s1.trans s2)⟩⟩
      | true =>
        obtain ⟨b, e, q⟩ := k
        cases e
        exact q H1 s1
    | _ => exact k.elim
theorem sndW_one {op : PySem.BoolOp} {x : Expr} {pos : Pos} {a : IE} (ha : PT X x (rT C Γ a)) : PW X (.BoolOp op [x] pos) (rT C Γ a) := by
  cases op with
  | And => exact pw_and1 ha
  | Or => exact pw_or1 ha
theorem rT_imp {e : IE} {σ : L2.St} {H : Hp} {Q Q' : Bool → Hp → Prop} (h : rT C Γ e σ H Q) (i : ∀ b H', Q b H' → Q' b H') : rT C Γ e σ H Q' := by
  obtain ⟨c, fs, env, so, sm, p⟩ := h
  exact ⟨c, fs, env, so, sm, p.imp fun d ⟨b, e, q⟩ => ⟨b, e, fun H2 s2 => i _ _ (q H2 s2)⟩⟩
theorem sndW_conj {op : PySem.BoolOp} {x y : Expr} {rest : List Expr} {pos : Pos} {a b : IE} (ha : PT X x (rT C Γ a)) (hb : PW X (.BoolOp op (y :: rest) pos) (rT C Γ b)) : PW X (.BoolOp op (x :: y :: rest) pos) (rT C Γ (conj op a b)) := by
  cases op with
  | And => exact PW.imp (pw_and ha hb) fun σ H Q h => rT_imp (conjT_imp (op := .And) σ H Q h) fun c H1 q => by cases c <;> exact q
  | Or => exact PW.imp (pw_or ha hb) fun σ H Q h => rT_imp (conjT_imp (op := .Or) σ H Q h) fun c H1 q => by cases c <;> exact q
theorem snd_not {x : Expr} {pos : Pos} {a : IE} {ta : OT} (ha : PE X x (rE C Γ ta a)) : PE X (.UnaryOp .Not x pos) (rE C Γ .fz (.not a)) :=
  PE.imp (pe_not ha) fun σ H Q h => by
    obtain ⟨c, fs, env, so, sm, p⟩ := h
    refine ⟨c, fs, env, so, sm, (Pst.bind p).imp fun x k v H1 s1 r1 => ?_⟩
    cases x with
    | bl y => exact ⟨y, r1.bl, k _ _ s1 .mkBl⟩
    | _ => exact k.elim
theorem sndT_not {x : Expr} {pos : Pos} {a : IE} (ha : PT X x (rT C Γ a)) : PT X (.UnaryOp .Not x pos) (rT C Γ (.not a)) :=
  PT.imp (pt_not ha) fun σ H Q h => by
    obtain ⟨c, fs, env, so, sm, p⟩ := h
    refine ⟨c, fs, env, so, sm, (Pst.bind p).imp fun x k => ?_⟩
    cases x with
    | bl y =>
      obtain ⟨b, e, q⟩ := k
      cases e
      exact ⟨y, rfl, q⟩
    | _ => exact k.elim
theorem snd_ife {x y z : Expr} {pos : Pos} {c a b : IE} {ta tb : OT} (hc : PT X z (rT C Γ c)) (ha : PE X x (rE C Γ ta a)) (hb : PE X y (rE C Γ tb b)) : PE X (.IfExp z x y pos) (rE C Γ .fz (.ife c a b)) :=
  PE.imp (pe_ifExp hc ha hb) fun σ H Q h => by
    obtain ⟨cf, fs, env, so, sm, p⟩ := h
    refine ⟨cf, fs, env, so, sm, (Pst.bind p).imp fun x k => ?_⟩
    cases x with
    | bl y =>
      refine ⟨y, rfl, fun H1 s1 => ?_⟩
      cases y with
      | true =>
        rw [if_pos rfl]
        exact ⟨cf, fs, env, so.mono s1, sm.mono s1, Pst.imp k fun d k v H2 s2 r2 => k v H2 (s1.trans s2) ((r2.fz (so.mono s1)).same s1)⟩
      | false =>
        rw [if_neg Bool.false_ne_true]
        exact ⟨cf, fs, env, so.mono s1, sm.mono s1, Pst.imp k fun d k v H2 s2 r2 => k v H2 (s1.trans s2) ((r2.fz (so.mono s1)).same s1)⟩
    | _ => exact k.elim
/-- an expression whose test is its value's truth -/
def valB : Expr → Bool
  | .UnaryOp .Not _ _ => false
  | .BoolOp .. => false
  | .IfExp .. => false
  | .Compare .. => false
  | _ => true
theorem isTrue_val {e : Expr} {env : PySem.Env} (h : valB e = true) (whole : Sem Value) : isTrue e env whole = (do let v ← whole; standAt e.pos; holding [v] (truthy v)) := by
  cases e with
  | UnaryOp o x p => cases o <;> first | rfl | cases h
  | BoolOp _ _ _ => cases h
  | IfExp _ _ _ _ => cases h
  | Compare _ _ _ _ => cases h
  | _ => rfl
theorem sndT_val {x : Expr} {a : IE} {ta : OT} (hv : valB x = true) (ha : PE X x (rE C Γ ta a)) : PT X x (rT C Γ a) :=
  PT.imp (pt_val ha (isTrue_val hv)) fun σ H Q h => rE_of_rT' h

/-! ### argument lists, displays -/
theorem star_plain {e : Expr} (h : plainX e = true) (es : List Expr) (env : PySem.Env) : starEach (e :: es) env = (false, eval e env) :: starEach es env := by
  cases e <;> first | rfl | cases h
theorem sndA_nil : PA X [] (rA C Γ [] .nil) := PA.imp pa_nil fun σ H Q h => by
  obtain ⟨c, fs, env, so, sm, p⟩ := h
  exact p [] [] H rfl (Ev.refl H) ⟨[], List.nodup_nil, (fun a h => by cases h), .nil⟩
theorem SO.hide {T : Tb} {c : Cfg} {fs : List (List Addr)} {H H1 : Hp} {σ : L2.St} {env : Env} {f : List Addr} (so : SO T c Γ fs H σ env) (s : Ev H H1) (nw : New H f) (hd : ∀ a ∈ f, H1 a ≠ none) :
    SO T { c with U := fun a => c.U a ∨ a ∈ f } Γ fs H1 σ env where
  sl := so.sl.mono (msk_mono s.toSame fun a q => q.elim (fun z => z.elim (fun z => .inl (.inl z)) fun z => .inr (nw a z)) fun z => .inl (.inr z)) fun a _ o n h => s.at_ h n
  nd := so.nd
  fr := so.fr
  un := fun a ha q => q.elim (so.un a ha) fun z => so.dom a ha (nw a z)
  dm := fun a q => q.elim (fun z => s.some (so.dm a z)) (hd a)
  sm := ⟨fun h n k => (so.sm.mono s).at_ h n k, fun h => (so.sm.mono s).tb h, fun h => (so.sm.mono s).ta h⟩
  sf := so.sf
theorem consA_imp {e a : IE} {t : OT} {ts : List OT} (σ : L2.St) (H : Hp) (Q : List V → Hp → Prop) (h : rA C Γ (t :: ts) (.cons e a) σ H Q) : tCons (rE C Γ t e) (rA C Γ ts a) σ H Q := by
  obtain ⟨c, fs, env, so, sm, p⟩ := h
  refine ⟨c, fs, env, so, sm, (Pst.cons p).imp fun d k v H1 s1 r1 => ?_⟩
  obtain ⟨f1, n1, w1, o1⟩ := r1
  have d1 := o1.dom
  refine ⟨{ c with U := fun a => c.U a ∨ a ∈ f1 }, fs, env, so.hide s1 w1 d1, sm.mono s1, Pst.imp k fun d' k ds vs H2 e s2 r2 => ?_⟩
  subst e
  obtain ⟨ds', e, q⟩ := k
  cases e
  refine q (d :: ds) (v :: vs) H2 rfl (s1.trans s2) ?_
  obtain ⟨f2, n2, w2, o2⟩ := r2
  refine ⟨f1 ++ f2, List.nodup_append.mpr ⟨n1, n2, fun a ha b hb e => by subst e; exact d1 a ha (w2 a hb)⟩, fun a ha => (List.mem_append.mp ha).elim (w1 a) fun z => s1.free (w2 a z), .cons (o1.mono (msk_mono s2.toSame fun a z => ?_) fun a ha o n h => s2.at_ h n) (o2.mono (msk_mono (Same.refl _) fun a z => .inl ?_) fun a ha o _ h => h)⟩
  · rcases z with z | z
    · exact .inl (.inl z)
    · rcases List.mem_append.mp z with z | z
      · exact .inl (.inr (List.mem_append_left _ z))
      · rcases List.mem_append.mp z with z | z
        · exact .inl (.inr (List.mem_append_right _ z))
        · exact .inr (w2 a z)
  · rcases z with z | z
    · exact .inl (.inl z)
    · rcases List.mem_append.mp z with z | z
      · exact .inr (List.mem_append_left _ z)
      · rcases List.mem_append.mp z with z | z
        · exact .inl (.inr z)
        · exact .inr (List.mem_append_right _ z)
theorem sndA_cons {x : Expr} {xs : List Expr} {e a : IE} {t : OT} {ts : List OT} (hp : plainX x = true) (ha : PE X x (rE C Γ t e)) (hr : PA X xs (rA C Γ ts a)) : PA X (x :: xs) (rA C Γ (t :: ts) (.cons e a)) :=
  PA.imp (pa_cons ha hr (star_plain hp _ _)) consA_imp
theorem snd_ls {xs : List Expr} {pos : Pos} {as : IE} {ts : List OT} (ha : PA X xs (rA C Γ ts as)) : PE X (.List xs pos) (rE C Γ (.ol .fz) (.ls as)) :=
  PE.imp (pe_lst ha) fun σ H Q h => by
    obtain ⟨c, fs, env, so, sm, p⟩ := h
    refine ⟨c, fs, env, so, sm, (Pst.arg p).imp fun d k ds vs H1 e s1 r1 => ?_⟩
    subst e
    obtain ⟨ds', e, q⟩ := k
    cases e
    unfold mkL at q
    split at q
    · rename_i hl
      have ra := r1.rep so
      exact ⟨by rw [ra.length]; exact Nat.le_trans hl lim_le, fun p np => q _ _ (s1.trans (same_upd np)) (.mkL (so.mono s1) s1 np ra)⟩
    · exact q.elim
theorem snd_tp {xs : List Expr} {pos : Pos} {k : Nat} {as : IE} {ts : List OT} (ha : PA X xs (rA C Γ ts as)) : PE X (.Tuple xs k pos) (rE C Γ (.ot ts) (.tp as)) :=
  PE.imp (pe_tup ha) fun σ H Q h => by
    obtain ⟨c, fs, env, so, sm, p⟩ := h
    refine ⟨c, fs, env, so, sm, (Pst.arg p).imp fun d k ds vs H1 e s1 r1 => ?_⟩
    subst e
    obtain ⟨ds', e, q⟩ := k
    cases e
    unfold mkT at q
    split at q
    · rename_i hl
      have ra := r1.rep so
      exact ⟨by rw [ra.length]; exact Nat.le_trans hl lim_le, fun p np => q _ _ (s1.trans (same_upd np)) (.mkO so s1 np r1)⟩
    · exact q.elim

/-! ### calls -/
theorem back_plain {pos : Pos} : ∀ {es : List Expr} {env : PySem.Env}, (es.all plainX) = true → (backTo pos (starEach es env)).any (·.1) = false := by
  intro es env h
  have key : ∀ es : List Expr, es.all plainX = true → ∀ p ∈ starEach es env, p.1 = false := fun es => by
    induction es with
    | nil => intro _ p hp; cases hp
    | cons x xs ih =>
      intro h p hp
      simp only [List.all_cons, Bool.and_eq_true] at h
      rw [star_plain h.1] at hp
      rcases List.mem_cons.mp hp with e | hp
      · rw [e]
      · exact ih h.2 p hp
  unfold backTo
  rw [List.any_map, List.any_eq_false]
  intro p hp
  have := key es h p hp
  obtain ⟨b, t⟩ := p
  simpa using this
theorem chkA_plain {as : IE} : ∀ {es : List Expr}, chkA G N sc as es = true → es.all plainX = true := by
  intro es
  induction es generalizing as with
  | nil => intro _; rfl
  | cons x xs ih =>
    intro h
    cases as with
    | cons e a =>
      simp only [chkA, Bool.and_eq_true] at h
      simp only [List.all_cons, Bool.and_eq_true]
      exact ⟨h.1.1, ih h.2⟩
    | _ => simp [chkA] at h
theorem tail_plain {e : Expr} {es : List Expr} (h : (e :: es).all plainX = true) : plainX e = true ∧ es.all plainX = true := by
  simpa only [List.all_cons, Bool.and_eq_true] using h
/-- what a promise asks is met: arguments that stand still -/
theorem sp_met0 {c : Cfg} {fs : List (List Addr)} {H H1 : Hp} {σ : L2.St} {env : Env} {t : OT} {n j : Nat} {vs : List V} {ds : List D} {Q : VK} (tb : LamX.Tabs TabC.tl H1) (so1 : SO C.T c Γ fs H1 σ env) (sm : C.xc.Sm H1) (s1 : Ev H H1) (ra : RepA C.T (c.A H1 fs.flatten) vs ds) (hl : vs.length = n)
    (q : Pst C.EX (fun d => ∀ v H', Ev H H' → RO C.T c t fs.flatten H H' v d → Q v H') (C.S j ds)) : spS C.T C.S t n j vs H1 Q (EXK C) := by
  refine ⟨fun a => c.U a ∨ a ∈ fs.flatten, ds, fun a u => u.elim (so1.dm a) (so1.dom a), ra, hl, tb, ?_⟩
  cases e : C.S j ds with
  | ok d =>
    rw [e] at q
    refine fun v H2 f s2 nf nw o => q v H2 (s1.trans s2) ⟨f, nf, fun a ha => s1.free (nw a ha), o.mono (msk_mono (Same.refl _) fun a z => .inl ?_) fun a _ o _ h => h⟩
    rcases z with z | z
    · exact .inl (.inl z)
    · exact (List.mem_append.mp z).elim (fun z => .inl (.inr z)) .inr
  | ex k es =>
    rw [e] at q
    exact fun cl dx H2 s2 x => ⟨k, es, x.back sm.nw, sm.mono s2, q⟩
  | bad => rw [e] at q; exact q
theorem XF.tabs (F : XF G C N sc X) {H : Hp} (sm : C.xc.Sm H) : LamX.Tabs TabC.tl H := sm.ta F.tb
/-- a def's call -/
theorem call_imp (F : XF G C N sc X) {j : Nat} {as : IE} {ts : List OT} {ps : List Str} (hlt : (G.lt[j]?).getD none = none) (har : ∀ ds, C.S j ds ≠ .bad → ds.length = ps.length) (σ : L2.St) (H : Hp) (Q : VK) (h : rE C Γ ((G.rt[j]?).getD .fz) (.call j as) σ H Q) :
    rA C Γ ts as σ H fun vs H1 => spJ G C.T C.S ps.length j (vs ++ []) H1 Q (EXK C) := by
  obtain ⟨c, fs, env, so, sm, q⟩ := h
  refine ⟨c, fs, env, so, sm, (Pst.arg q).imp fun d k ds vs H1 e s1 r1 => ?_⟩
  subst e
  obtain ⟨ds', e, q⟩ := k
  cases e
  have ra := r1.rep so
  have so1 := so.mono s1
  rw [List.append_nil]
  unfold spJ
  rw [hlt]
  exact sp_met0 (F.tabs (sm.mono s1)) so1 (sm.mono s1) s1 ra (by rw [ra.length]; exact har ds fun e => by rw [e] at q; exact q) q
theorem snd_call (F : XF G C N sc X) (hcm : G.cm = true) {j : Nat} {x : Str} {p pos : Pos} {e : Expr} {es : List Expr} {as : IE} {ts : List OT} (hpl : G.pl.contains j = true) (hn : j < G.lv) (hj : G.fn[j]? = some x) (hgs : x ∈ G.gs) (hlt : (G.lt[j]?).getD none = none) (hg : glB sc x = true) (ok : okN x = true) (hp : (e :: es).all plainX = true) (ha : PA X (e :: es) (rA C Γ ts as)) :
    PE X (.Call (.Name x p) (e :: es) [] pos) (rE C Γ ((G.rt[j]?).getD .fz) (.call j as)) := by
  obtain ⟨o1, o2, o3⟩ := okN_of ok
  obtain ⟨f, fd, ps, hm, hps, hk, hbd, har, FO⟩ := F.ff.fn j x hn hj hgs
  have hb := hbd hpl
  have hr : Room (j + 1) X.A := (F.rm hcm).mono hn
  have hx : Passes (L2.CX X.prog X.w) X (EXK C) := F.hx
  rw [← F.K] at hk hb FO
  obtain ⟨p1, p2⟩ := tail_plain hp
  exact PE.imp (pe_call FO hr (F.gl hg) hm hk hb .nil hx ha o1 (star_plain p1 _ _) (back_plain p2)) (call_imp F hlt har)
theorem snd_call0 (F : XF G C N sc X) (hcm : G.cm = true) {j : Nat} {x : Str} {p pos : Pos} (hpl : G.pl.contains j = true) (hn : j < G.lv) (hj : G.fn[j]? = some x) (hgs : x ∈ G.gs) (hlt : (G.lt[j]?).getD none = none) (hg : glB sc x = true) (ok : okN x = true) :
    PE X (.Call (.Name x p) [] [] pos) (rE C Γ ((G.rt[j]?).getD .fz) (.call j .nil)) := by
  obtain ⟨o1, o2, o3⟩ := okN_of ok
  obtain ⟨f, fd, ps, hm, hps, hk, hbd, har, FO⟩ := F.ff.fn j x hn hj hgs
  have hb := hbd hpl
  have hr : Room (j + 1) X.A := (F.rm hcm).mono hn
  have hx : Passes (L2.CX X.prog X.w) X (EXK C) := F.hx
  rw [← F.K] at hk hb FO
  refine PE.imp (pe_call0 FO hr (F.gl hg) hm hk hb .nil hx o1) fun σ H Q h => ?_
  obtain ⟨c, fs, env, so, sm, q⟩ := call_imp (ts := []) F hlt har σ H Q h
  exact q [] [] H rfl (Ev.refl H) ⟨[], List.nodup_nil, (fun a h => by cases h), .nil⟩

/-! ### built-in calls -/
def bltR (K : PySem.W.Frag) : Blt → List V → Hp → VK → Prop
  | .len => fun xs H Q => ∃ p ys, xs = [.ref p] ∧ (SqL K H p ys ∨ SqT K H p ys) ∧ Q (.int ys.length) H
  | .abs => fun xs H Q => ∃ i, xs = [.int i] ∧ Q (.int (if i < 0 then -i else i)) H
  | .int => fun xs H Q => (∃ i, xs = [.int i] ∧ Q (.int i) H) ∨ ∃ k, xs = [.bl k] ∧ Q (.int (if k then 1 else 0)) H
  | .min => fun xs H Q => ∃ i j, xs = [.int i, .int j] ∧ Q (.int (if j < i then j else i)) H
  | .max => fun xs H Q => ∃ i j, xs = [.int i, .int j] ∧ Q (.int (if j > i then j else i)) H
  | .list => fun xs H Q => ∃ p ys, xs = [.ref p] ∧ (SqL K H p ys ∨ SqT K H p ys) ∧ ∀ l, H l = none → Q (.ref l) (upd H l (.lst ys))
  | .tuple => fun xs H Q => ∃ p ys, xs = [.ref p] ∧ ((SqL K H p ys ∧ ∀ l, H l = none → Q (.ref l) (upd H l (.tup ys))) ∨ (SqT K H p ys ∧ Q (.ref p) H))
  | .gcd => rGcd
  | _ => fun _ _ _ => False
def bltT : Blt → OT
  | .list => .ol .fz
  | _ => .fz
/-- what a built-in asks is met -/
theorem blt_met {b : Blt} {ts : List OT} (σ : L2.St) {as : IE} (H : Hp) (Q : VK) (ht : typN b = none) (h : rE C Γ (bltT b) (.blt b as) σ H Q) : tCB (bltR C.T.K b) (rA C Γ ts as) σ H Q := by
  obtain ⟨c, fs, env, so, sm, q⟩ := h
  refine ⟨c, fs, env, so, sm, (Pst.arg q).imp fun d k ds vs H1 e s1 r1 => ?_⟩
  subst e
  obtain ⟨ds', e, q⟩ := k
  cases e
  have ra := r1.rep so
  have so1 := so.mono s1
  cases b with
  | len =>
    cases ra with
    | nil => exact q.elim
    | cons r t =>
      cases t with
      | cons _ _ => cases r <;> exact q.elim
      | nil =>
        cases r with
        | lst hv a =>
          refine ⟨_, _, rfl, .inl (.of (msk_some.mp hv).2), ?_⟩
          rw [a.length]
          exact q _ _ s1 .mkInt
        | tup hv a =>
          refine ⟨_, _, rfl, .inr (seqT msk_same hv), ?_⟩
          rw [a.length]
          exact q _ _ s1 .mkInt
        | @scr a ns hv =>
          refine ⟨_, _, rfl, .inl (msk_same.seq hv), ?_⟩
          rw [List.length_map]
          exact q _ _ s1 .mkInt
        | _ => exact q.elim
  | abs =>
    cases ra with
    | nil => exact q.elim
    | cons r t =>
      cases t with
      | cons _ _ => cases r <;> exact q.elim
      | nil =>
        cases r with
        | int i => exact ⟨i, rfl, q _ _ s1 .mkInt⟩
        | _ => exact q.elim
  | int =>
    cases ra with
    | nil => exact q.elim
    | cons r t =>
      cases t with
      | cons _ _ => cases r <;> exact q.elim
      | nil =>
        cases r with
        | int i => exact .inl ⟨i, rfl, q _ _ s1 .mkInt⟩
        | _ => exact q.elim
  | min =>
    cases ra with
    | nil => exact q.elim
    | cons r t =>
      cases t with
      | nil => cases r <;> exact q.elim
      | cons r' t' =>
        cases t' with
        | cons _ _ => cases r <;> first | exact q.elim | (cases r' <;> exact q.elim)
        | nil =>
          cases r with
          | int i =>
            cases r' with
            | int j => exact ⟨i, j, rfl, q _ _ s1 .mkInt⟩
            | _ => exact q.elim
          | _ => exact q.elim
  | max =>
    cases ra with
    | nil => exact q.elim
    | cons r t =>
      cases t with
      | nil => cases r <;> exact q.elim
      | cons r' t' =>
        cases t' with
        | cons _ _ => cases r <;> first | exact q.elim | (cases r' <;> exact q.elim)
        | nil =>
          cases r with
          | int i =>
            cases r' with
            | int j => exact ⟨i, j, rfl, q _ _ s1 .mkInt⟩
            | _ => exact q.elim
          | _ => exact q.elim
  | gcd =>
    cases ra with
    | nil => exact q.elim
    | cons r t =>
      cases t with
      | nil => cases r <;> exact q.elim
      | cons r' t' =>
        cases t' with
        | cons _ _ => cases r <;> first | exact q.elim | (cases r' <;> exact q.elim)
        | nil =>
          cases r with
          | int i =>
            cases r' with
            | int j => exact ⟨i, j, rfl, q _ _ s1 .mkInt⟩
            | _ => exact q.elim
          | _ => exact q.elim
  | list =>
    cases ra with
    | nil => exact q.elim
    | cons r t =>
      cases t with
      | cons _ _ => cases r <;> exact q.elim
      | nil =>
        cases r with
        | lst hv a => exact ⟨_, _, rfl, .inl (.of (msk_some.mp hv).2), fun l nl => q _ _ (s1.trans (same_upd nl)) (.mkL so1 s1 nl a)⟩
        | tup hv a => exact ⟨_, _, rfl, .inr (seqT msk_same hv), fun l nl => q _ _ (s1.trans (same_upd nl)) (.mkL so1 s1 nl a)⟩
        | @scr a ns hv => exact ⟨_, _, rfl, .inl (msk_same.seq hv), fun l nl => q _ _ (s1.trans (same_upd nl)) (.mkL so1 s1 nl (.of_ints ns))⟩
        | _ => exact q.elim
  | tuple =>
    cases ra with
    | nil => exact q.elim
    | cons r t =>
      cases t with
      | cons _ _ => cases r <;> exact q.elim
      | nil =>
        cases r with
        | lst hv a => exact ⟨_, _, rfl, .inl ⟨.of (msk_some.mp hv).2, fun l nl => q _ _ (s1.trans (same_upd nl)) (.mkT so1 nl a)⟩⟩
        | tup hv a => exact ⟨_, _, rfl, .inr ⟨seqT msk_same hv, q _ _ s1 (.of_rep (.tup hv a))⟩⟩
        | _ => exact q.elim
  | _ => cases ht
theorem bltT_of (b : Blt) (as : IE) : tyE G Γ (.blt b as) = bltT b := by cases b <;> rfl
theorem snd_blt (F : XF G C N sc X) {b : Blt} {x y : Str} {p pos : Pos} {e : Expr} {es : List Expr} {as : IE} {ts : List OT} (hb : bltN b = some y) (hxy : x = y) (hg : glB sc x = true) (hin : x ∈ G.bl) (hcm : (G.cm || calmB b) = true) (hp : (e :: es).all plainX = true) (ha : PA X (e :: es) (rA C Γ ts as)) :
    PE X (.Call (.Name x p) (e :: es) [] pos) (rE C Γ (bltT b) (.blt b as)) := by
  obtain ⟨p1, p2⟩ := tail_plain hp
  have hm := F.ff.bl _ hin
  have hG := F.gl hg
  cases b <;> first
    | (cases hb; done)
    | (cases hb
       subst hxy
       refine PE.imp ?_ fun σ H Q h => blt_met (ts := ts) σ H Q rfl h
       rw [← F.K]
       first
         | exact pe_callB call_len_seq hG hm PySem.boot_len ha (by decide) (by decide) (star_plain p1 _ _) (back_plain p2)
         | exact pe_callB call_abs hG hm PyProof.Rows.boot_abs ha (by decide) (by decide) (star_plain p1 _ _) (back_plain p2)
         | exact pe_callB (call_min2 (F.calm (by simpa [calmB] using hcm))) hG hm (by decide +kernel) ha (by decide) (by decide) (star_plain p1 _ _) (back_plain p2)
         | exact pe_callB (call_max2 (F.calm (by simpa [calmB] using hcm))) hG hm (by decide +kernel) ha (by decide) (by decide) (star_plain p1 _ _) (back_plain p2)
         | exact pe_callTy call_int1 hG hm (by decide +kernel) ha (by decide) (by decide) (star_plain p1 _ _) (back_plain p2)
         | exact pe_callTy call_list_of hG hm (by decide +kernel) ha (by decide) (by decide) (star_plain p1 _ _) (back_plain p2)
         | exact pe_callTy call_tuple_of hG hm (by decide +kernel) ha (by decide) (by decide) (star_plain p1 _ _) (back_plain p2))
theorem snd_gcd (F : XF G C N sc X) {p pos : Pos} {e : Expr} {es : List Expr} {as : IE} {ts : List OT} (hc : G.gc = true) (hg : glB sc "gcd" = true) (hp : (e :: es).all plainX = true) (ha : PA X (e :: es) (rA C Γ ts as)) :
    PE X (.Call (.Name "gcd" p) (e :: es) [] pos) (rE C Γ .fz (.blt .gcd as)) := by
  obtain ⟨p1, p2⟩ := tail_plain hp
  refine PE.imp ?_ fun σ H Q h => blt_met (b := .gcd) (ts := ts) σ H Q rfl h
  exact pe_callBfun cr_gcd (F.gl hg) (F.ff.gc hc) ha (by decide) (star_plain p1 _ _) (back_plain p2)
end
end Pv

/-! Pv, part H: isinstance, subscripts, slices, what is gone through, targets. -/
namespace Pv
open PySem PySem.Spec PyProof.Rows L2
variable [TabC]
section
variable {G : Gt} {C : Ct} {N : List Str} {sc : Scope} {X : Cx} {Γ : List OT}

/-! ### isinstance -/
theorem sqT_ty {K : PySem.W.Frag} {H : Hp} {a : Addr} {xs : List V} (h : SqT K H a xs) : TyX K H (.ref a) (.type "tuple") := by
  rcases h with (h | ⟨o, h⟩) | ⟨o, its, n, h, c, _⟩
  · exact .base (.tup h)
  · exact .fTuple h
  · exact .kTuple h c
theorem isi_met {b : Blt} {tn : String} {d : D} {k : Bool} {A : Hp} {v : V} (hb : typN b = some tn) (e : bltD b [d] = .ok (.bl k)) (r : Rep C.T A v d) : ∃ t, TyX C.T.K A v t ∧ PySem.W.kitOne C.T.K t (.type tn) = some k := by
  cases b <;> first
    | (cases hb; done)
    | (cases hb
       cases r <;> first
         | (cases e; done)
         | (cases e; exact ⟨_, .base .non, kit_ty (by decide +kernel)⟩)
         | (cases e; exact ⟨_, .base (.bl _), kit_ty (by decide +kernel)⟩)
         | (cases e; exact ⟨_, .base (.int _), kit_ty (by decide +kernel)⟩)
         | (cases e; exact ⟨_, .base (.str _), kit_ty (by decide +kernel)⟩)
         | (cases e; rename_i hv _; exact ⟨_, .base (.lst hv), kit_ty (by decide +kernel)⟩)
         | (cases e; rename_i hv _; exact ⟨_, sqT_ty hv, kit_ty (by decide +kernel)⟩))
theorem isi_ex {b : Blt} {ds : List D} {tn : String} (hb : typN b = some tn) : (∀ k es, bltD b ds ≠ .ex k es) ∧ ∀ d, bltD b ds = .ok d → ∃ x k, ds = [x] ∧ d = .bl k := by
  cases b <;> first
    | (cases hb; done)
    | (cases ds with
       | nil => exact ⟨fun k es z => (nomatch z), fun d z => (nomatch z)⟩
       | cons x r =>
         cases r with
         | nil => cases x <;> exact ⟨fun k es z => (by cases z), fun d z => (by cases z <;> exact ⟨_, _, rfl, rfl⟩)⟩
         | cons y r => cases x <;> exact ⟨fun k es z => (by cases z), fun d z => (by cases z)⟩)
theorem ty_boot {b : Blt} {tn : String} (h : typN b = some tn) : bootBuiltins (Str.ofString tn) = some (.type tn) := by
  cases b <;> first | (cases h; done) | (cases h; decide +kernel)
theorem ty_name {b : Blt} {tn : String} (h : typN b = some tn) : Str.ofString tn ≠ "__name__" ∧ (Str.ofString tn == ("__debug__" : Str)) = false := by
  cases b <;> first | (cases h; done) | (cases h; exact ⟨by decide, by decide⟩)
theorem snd_isi (F : XF G C N sc X) {b : Blt} {tn : String} {e : Expr} {a : IE} {t : OT} {p p' pos : Pos} (hb : typN b = some tn) (hg : glB sc "isinstance" = true) (hin : ("isinstance" : Str) ∈ G.bl) (hg' : glB sc (Str.ofString tn) = true) (hin' : Str.ofString tn ∈ G.bl)
    (hp : plainX e = true) (ha : PE X e (rE C Γ t a)) : PE X (.Call (.Name "isinstance" p) [e, .Name (Str.ofString tn) p'] [] pos) (rE C Γ .fz (.blt b (.cons a .nil))) := by
  have ht : PE X (.Name (Str.ofString tn) p') (tC (.ty tn)) := pe_bltn (F.gl hg') (F.ff.bl _ hin') (ty_boot hb) rfl (ty_name hb).1 (ty_name hb).2
  refine PE.imp (pe_callB call_isi (F.gl hg) (F.ff.bl _ hin) (by decide +kernel) (pa_cons ha (pa_cons ht pa_nil) (star_plain hp _ _)) (by decide) (by decide) (star_plain hp _ _) (back_plain (by rfl))) fun σ H Q h => ?_
  obtain ⟨c, fs, env, so, sm, q⟩ := h
  refine ⟨c, fs, env, so, sm, Pst.imp (Pst.cons (Pst.arg q)) fun d k v H1 s1 r1 => ?_⟩
  obtain ⟨ds, e1, ds', e2, q⟩ := (show ∃ ds, D.tup [] = D.tup ds ∧ ∃ ds', D.tup (d :: ds) = D.tup ds' ∧ Pst C.EX (fun d => ∀ v H', Ev H H' → RO C.T c .fz fs.flatten H H' v d → Q v H') (bltD b ds') from k)
  cases e1
  cases e2
  obtain ⟨n1, n2⟩ := isi_ex (b := b) (ds := [d]) hb
  cases e : bltD b [d] with
  | ok d2 =>
    obtain ⟨x, k, e1, e2⟩ := n2 _ e
    subst e2
    rw [e] at q
    obtain ⟨tt, h1, h2⟩ := isi_met hb e ((r1.rep so).mono msk_same)
    exact ⟨v, .ty tn, tt, .type tn, k, rfl, .ty tn, by rw [F.K]; exact h1, by rw [F.K]; exact h2, q _ _ s1 .mkBl⟩
  | ex k es => exact absurd e (n1 k es)
  | bad => rw [e] at q; exact q.elim

/-! ### subscripts, slices -/
theorem atD_some {ds : List D} {i : Int} {d : D} (h : atD ds i = .ok d) : ∃ j, ixN ds.length i = some j ∧ ds[j]? = some d := by
  unfold atD at h
  have e : (ixn ds.length i) = ixN ds.length i := rfl
  rw [e] at h
  cases e1 : ixN ds.length i with
  | none => rw [e1] at h; cases h
  | some j =>
    rw [e1] at h
    refine ⟨j, rfl, ?_⟩
    have h' : (match ds[j]? with | some d => R.ok d | none => R.bad) = .ok d := h
    cases e2 : ds[j]? with
    | none => rw [e2] at h'; cases h'
    | some x => rw [e2] at h'; cases h'; rfl
theorem atD_ex {ds : List D} {i : Int} {k : Str} {es : List D} : atD ds i ≠ .ex k es := fun h => by
  unfold atD at h
  split at h <;> cases h
theorem ixD_ex {x y : D} {k : Str} {es : List D} : ixD x y ≠ .ex k es := fun h => by
  cases x <;> first | (cases h; done) | (cases y <;> first | (cases h; done) | exact atD_ex h)
theorem rep_at {T : Tb} {H : Hp} {vs : List V} {ds : List D} {i : Int} {d : D} (r : RepA T H vs ds) (h : atD ds i = .ok d) : ∃ v, atI vs i = some v ∧ Rep T H v d := by
  obtain ⟨j, h1, h2⟩ := atD_some h
  obtain ⟨v, g1, g2⟩ := r.get h2
  refine ⟨v, ?_, g2⟩
  unfold atI
  rw [r.length, h1]
  exact g1
theorem ix_met {ta tb : OT} (H : Hp) (v w : V) (H2 : Hp) (Q : VK) (h : Two C Γ ta tb .fz ixD Q H v w H2) : rIx C.T.K v w H2 Q := by
  obtain ⟨c, fs, env, σ, x, y, so0, so, sm, s, rx, ry, p⟩ := h
  have r := rx.rep so0
  cases r with
  | lst hv a =>
    cases y with
    | int i =>
      cases e : atD _ i with
      | ok d =>
        obtain ⟨u, g1, g2⟩ := rep_at a e
        have p' : Pst C.EX _ (atD _ i) := p
        rw [e] at p'
        exact .inl ⟨_, _, i, u, rfl, ry.int, .of (msk_some.mp hv).2, g1, p' _ _ (Ev.refl _) (.of_rep g2)⟩
      | ex k es => exact absurd e atD_ex
      | bad =>
        have p' : Pst C.EX _ (atD _ i) := p
        rw [e] at p'
        exact p'.elim
    | _ => exact p.elim
  | tup hv a =>
    cases y with
    | int i =>
      cases e : atD _ i with
      | ok d =>
        obtain ⟨u, g1, g2⟩ := rep_at a e
        have p' : Pst C.EX _ (atD _ i) := p
        rw [e] at p'
        exact .inr (.inl ⟨_, _, i, u, rfl, ry.int, seqT msk_same hv, g1, p' _ _ (Ev.refl _) (.of_rep g2)⟩)
      | ex k es => exact absurd e atD_ex
      | bad =>
        have p' : Pst C.EX _ (atD _ i) := p
        rw [e] at p'
        exact p'.elim
    | _ => exact p.elim
  | @scr a ns hv =>
    cases y with
    | int i =>
      cases e : atD (ns.map D.int) i with
      | ok d =>
        obtain ⟨u, g1, g2⟩ := rep_at (.of_ints ns) e
        have p' : Pst C.EX _ (atD (ns.map D.int) i) := p
        rw [e] at p'
        exact .inl ⟨_, _, i, u, rfl, ry.int, msk_same.seq hv, g1, p' _ _ (Ev.refl _) (.of_rep g2)⟩
      | ex k es => exact absurd e atD_ex
      | bad =>
        have p' : Pst C.EX _ (atD (ns.map D.int) i) := p
        rw [e] at p'
        exact p'.elim
    | _ => exact p.elim
  | _ => exact p.elim
theorem plain_ix {b : Expr} (h : noSl b = true) : PlainIx b := fun o i => by
  cases b <;> first | rfl | cases h
theorem snd_ix (F : XF G C N sc X) {x y : Expr} {pos : Pos} {a b : IE} {ta tb : OT} (hs : noSl y = true) (ha : PE X x (rE C Γ ta a)) (hb : PE X y (rE C Γ tb b)) : PE X (.Subscript x y pos) (rE C Γ .fz (.ix a b)) := by
  have h := ix_seq (X := X)
  rw [F.K] at h
  exact PE.imp (pe_ix h ha hb (plain_ix hs)) fun σ H Q q => two_imp (f := ixD) (fun _ => rfl) ix_met σ H Q q
/-- an item of what is owned, at a written place: it keeps its holding -/
theorem snd_ixO (F : XF G C N sc X) {x : Expr} {pos p' : Pos} {j k : Nat} {a : IE} {ts : List OT} (ha : PE X x (rE C Γ (.ot ts) a)) : PE X (.Subscript x (.Constant (.int (k : Int)) j p') pos) (rE C Γ ((ts[k]?).getD .fz) (.ix a (.ct (.int (k : Int))))) := by
  have h := ix_tup (X := X)
  rw [F.K] at h
  refine PE.imp (pe_ix h ha pe_int (plain_ix rfl)) fun σ H Q q => ?_
  obtain ⟨c, fs, env, so, sm, p⟩ := q
  refine ⟨c, fs, env, so, sm, (Pst.bind p).imp fun x px v H1 s1 r1 => ?_⟩
  have px' : Pst C.EX (fun d => ∀ v H', Ev H H' → RO C.T c ((ts[k]?).getD .fz) fs.flatten H H' v d → Q v H') (ixD x (.int (k : Int))) := px
  obtain ⟨f, nf, nw, o⟩ := r1
  cases o with
  | @ot _ f' q0 vs ds hv ol =>
    have px' : Pst C.EX (fun d => ∀ v H', Ev H H' → RO C.T c ((ts[k]?).getD .fz) fs.flatten H H' v d → Q v H') (atD ds (k : Int)) := px'
    cases e : atD ds (k : Int) with
    | ok d =>
      rw [e] at px'
      obtain ⟨i, h1, h2⟩ := atD_some e
      have hi : i = k := by
        unfold ixN at h1
        rw [if_pos (by omega)] at h1
        split at h1
        · have := Option.some.inj h1; simp at this; exact this.symm
        · cases h1
      subst hi
      obtain ⟨u, t, g, g1, g2, g3, g4, g5⟩ := ol.get h2
      have hl := ol.length
      refine ⟨q0, vs, (i : Int), u, rfl, rfl, .of hv, ?_, px' _ _ s1 ?_⟩
      · unfold atI
        rw [hl.1, h1]
        exact g1
      · rw [g2]
        have nf' := List.nodup_cons.mp nf
        exact ⟨g, g5 nf'.2, fun a ha => nw a (List.mem_cons_of_mem _ (g4 a ha)), g3.mono (msk_mono (Same.refl _) fun a z => .inl (z.imp id fun z => (List.mem_append.mp z).elim (List.mem_append_left _) fun z => List.mem_append_right _ (List.mem_cons_of_mem _ (g4 a z)))) fun a _ o _ h => h⟩
    | ex k es => exact absurd e atD_ex
    | bad => rw [e] at px'; exact px'.elim
/-- an item of a list of one's own, which stays one's own -/
theorem snd_ixV (F : XF G C N sc X) {i : Nat} {x : Str} {y : Expr} {p' pos : Pos} {b : IE} {tb : OT} (hN : N[i]? = some x) (hv : visB sc x = true) (ok : okN x = true) (hz : (Γ[i]?).getD .fz = .ol .fz) (hs : noSl y = true) (hb : PE X y (rE C Γ tb b)) :
    PE X (.Subscript (.Name x p') y pos) (rE C Γ .fz (.ix (.vr i) b)) := by
  obtain ⟨o1, o2, o3⟩ := okN_of ok
  have h := ix_list (X := X)
  rw [F.K] at h
  refine PE.imp (pe_ix h (pe_var (i := i) (by rw [F.N]; exact hN) (F.vis hv) o1 o2) hb (plain_ix hs)) fun σ H Q q => ?_
  obtain ⟨c, fs, env, so, sm, p⟩ := q
  have p : Pst C.EX (fun d => ∀ v H', Ev H H' → RO C.T c .fz fs.flatten H H' v d → Q v H') ((ev C.S env (.vr i)).bind fun x => (ev C.S env b).bind fun y => ixD x y) := p
  simp only [ev] at p
  split at p
  · rename_i d e
    obtain ⟨v, t, f, h1, h2, h3, o⟩ := so.sl.get e
    rw [h2] at hz
    have hz : t = .ol .fz := hz
    subst hz
    have p : Pst C.EX (fun d => ∀ v H', Ev H H' → RO C.T c .fz fs.flatten H H' v d → Q v H') ((ev C.S env b).bind fun y => ixD d y) := p
    refine ⟨v, h1, c, fs, env, so, sm, (Pst.bind p).imp fun y py w H1 s1 r1 => ?_⟩
    cases o with
    | @ol _ f' q vs ds hq ol =>
      obtain ⟨_, ra⟩ := ol.to_rep
      have py : Pst C.EX (fun d => ∀ v H', Ev H H' → RO C.T c .fz fs.flatten H H' v d → Q v H') (ixD (.lst ds) y) := py
      cases y with
      | int k =>
        cases e2 : atD ds k with
        | ok d2 =>
          obtain ⟨u, g1, g2⟩ := rep_at ra e2
          have p' : Pst C.EX _ (atD ds k) := py
          rw [e2] at p'
          exact ⟨q, vs, k, u, rfl, r1.int, .of (s1.lst hq), g1, p' _ _ s1 (.of_rep (g2.mono (Cfg.A_mono s1)))⟩
        | ex k' es => exact absurd e2 atD_ex
        | bad =>
          have p' : Pst C.EX _ (atD ds k) := py
          rw [e2] at p'
          exact p'.elim
      | _ => exact py.elim
  · exact p.elim
/-- len of a list of one's own -/
theorem snd_lenV (F : XF G C N sc X) {i : Nat} {x : Str} {p p' pos : Pos} (hN : N[i]? = some x) (hv : visB sc x = true) (ok : okN x = true) (hg : glB sc "len" = true) (hin : ("len" : Str) ∈ G.bl) :
    PE X (.Call (.Name "len" p) [.Name x p'] [] pos) (rE C Γ .fz (.blt .len (.cons (.vr i) .nil))) := by
  obtain ⟨o1, o2, o3⟩ := okN_of ok
  refine PE.imp (pe_callB call_len_seq (F.gl hg) (F.ff.bl _ hin) PySem.boot_len (pa_cons (pe_var (i := i) (by rw [F.N]; exact hN) (F.vis hv) o1 o2) pa_nil)) fun σ H Q q => ?_
  obtain ⟨c, fs, env, so, sm, p⟩ := q
  have p : Pst C.EX (fun d => ∀ v H', Ev H H' → RO C.T c .fz fs.flatten H H' v d → Q v H') (argD (consD (ev C.S env (.vr i)) (.ok (.tup []))) (bltD .len)) := p
  simp only [ev] at p
  split at p
  · rename_i d e
    obtain ⟨v, t, f, h1, h2, h3, o⟩ := so.sl.get e
    have r : Rep C.T H v d := o.rep msk_same fun a _ o h => h
    refine ⟨v, h1, ?_⟩
    rw [F.K]
    have p : Pst C.EX (fun d => ∀ v H', Ev H H' → RO C.T c .fz fs.flatten H H' v d → Q v H') (bltD .len [d]) := p
    cases r with
    | lst hv a => exact ⟨_, _, rfl, .inl (.of hv), by rw [a.length]; exact p _ _ (Ev.refl _) .mkInt⟩
    | tup hv a => exact ⟨_, _, rfl, .inr hv, by rw [a.length]; exact p _ _ (Ev.refl _) .mkInt⟩
    | @scr a ns hv => exact ⟨_, _, rfl, .inl hv, by rw [List.length_map]; exact p _ _ (Ev.refl _) .mkInt⟩
    | _ => exact p.elim
  · exact p.elim
end
end Pv

/-! Pv, part I: slices, what is gone through, targets. -/
namespace Pv
open PySem PySem.Spec PyProof.Rows L2
variable [TabC]
section
variable {G : Gt} {C : Ct} {N : List Str} {sc : Scope} {X : Cx} {Γ : List OT}

/-! ### slices -/
theorem PO.imp {e : Option Expr} {t t' : L2.TO} (h : PO X e t) (i : ∀ σ H Q, t' σ H Q → t σ H Q) : PO X e t' := ⟨fun pins s σ H Q I q => h.run pins s σ H Q I (i σ H Q q)⟩
theorem cutL_eq {A : Hp} {vs : List V} {ds : List D} (a : RepA C.T A vs ds) (lo hi : Option Int) : RepA C.T A (cutV vs lo hi) (cutL ds lo hi) := by
  have e : ∀ n d k, HT.sIx n d k = cutN n d k := fun n d k => by cases k <;> rfl
  unfold cutV cutL
  rw [e, e, a.length]
  exact (a.drop _).take _
def rSl (K : PySem.W.Frag) : V → Option Int → Option Int → Hp → VK → Prop := fun x lo hi H Q => rSlL K x lo hi H Q ∨ rSlA K x lo hi H Q
theorem sl_met {t : OT} {c : Cfg} {fs : List (List Addr)} {H H1 : Hp} {σ : L2.St} {env : Env} {v : V} {x : D} {lo hi : Option Int} {Q : VK} (so : SO C.T c Γ fs H σ env) (s : Ev H H1) (r : RO C.T c t fs.flatten H H1 v x)
    (p : Pst C.EX (fun d => ∀ v H', Ev H H' → RO C.T c .fz fs.flatten H H' v d → Q v H') (slO x lo hi)) : rSl C.T.K v lo hi H1 Q := by
  have ra := r.rep so
  have so1 := so.mono s
  cases ra with
  | lst hv a =>
    simp only [slO] at p
    unfold mkL at p
    split at p
    · exact .inl ⟨_, _, rfl, .of (msk_some.mp hv).2, fun q nq => p _ _ (s.trans (same_upd nq)) ((RO.mkL so1 s nq (cutL_eq a lo hi)).fz so)⟩
    · exact p.elim
  | @scr a ns hv =>
    simp only [slO] at p
    unfold mkL at p
    split at p
    · exact .inl ⟨_, _, rfl, msk_same.seq hv, fun q nq => p _ _ (s.trans (same_upd nq)) ((RO.mkL so1 s nq (cutL_eq (.of_ints ns) lo hi)).fz so)⟩
    · exact p.elim
  | tup hv a =>
    simp only [slO] at p
    unfold mkT at p
    split at p
    · have cl := cutL_eq a lo hi
      refine .inr ⟨_, _, rfl, seqT msk_same hv, fun hw => ?_, fun hw q nq => p _ _ (s.trans (same_upd nq)) (.mkT so1 nq cl)⟩
      refine p _ _ s (.of_rep (.tup hv ?_))
      unfold cutV at cl
      rw [hw.1, hw.2] at cl
      simpa using cl
    · exact p.elim
  | _ => exact p.elim
theorem intR_of {EX : Str → List D → Prop} {K : D → Prop} {y : D} {f : Int → R} (h : Pst EX K (intR y f)) : ∃ i, y = .int i ∧ Pst EX K (f i) := by
  cases y with
  | int i => exact ⟨i, rfl, h⟩
  | _ => exact h.elim
theorem slR_ok (F : XF G C N sc X) : SlR X (rSl C.T.K) := by
  have hr : SlR X (rSl X.K) := sl_list.or sl_tupA
  rw [F.K] at hr
  exact hr
theorem snd_sl (F : XF G C N sc X) {x l h : Expr} {p2 pos : Pos} {a lo hi : IE} {t tl th : OT} (ha : PE X x (rE C Γ t a)) (hl : PE X l (rE C Γ tl lo)) (hh : PE X h (rE C Γ th hi)) : PE X (.Subscript x (.Slice (some l) (some h) none p2) pos) (rE C Γ .fz (.sl a lo hi)) :=
  PE.imp (pe_slice (slR_ok F) ha (po_some hl) (po_some hh)) fun σ H Q q => by
    obtain ⟨c, fs, env, so, sm, p⟩ := q
    refine ⟨c, fs, env, so, sm, (Pst.bind p).imp fun x px v H1 s1 r1 => ?_⟩
    have so1 := so.mono s1
    refine ⟨c, fs, env, so1, sm.mono s1, (Pst.bind px).imp fun y py w H2 s2 r2 => ?_⟩
    obtain ⟨i, rfl, py⟩ := intR_of py
    refine ⟨i, r2.int, c, fs, env, so1.mono s2, (sm.mono s1).mono s2, (Pst.bind py).imp fun z pz u H3 s3 r3 => ?_⟩
    obtain ⟨j, rfl, pz⟩ := intR_of pz
    exact ⟨j, r3.int, sl_met so ((s1.trans s2).trans s3) ((r1.later so1 s2).later (so1.mono s2) s3) pz⟩
theorem snd_slF (F : XF G C N sc X) {x l : Expr} {p2 pos : Pos} {a lo : IE} {t tl : OT} (ha : PE X x (rE C Γ t a)) (hl : PE X l (rE C Γ tl lo)) : PE X (.Subscript x (.Slice (some l) none none p2) pos) (rE C Γ .fz (.slF a lo)) :=
  PE.imp (pe_slice (slR_ok F) ha (po_some hl) po_none) fun σ H Q q => by
    obtain ⟨c, fs, env, so, sm, p⟩ := q
    refine ⟨c, fs, env, so, sm, (Pst.bind p).imp fun x px v H1 s1 r1 => ?_⟩
    have so1 := so.mono s1
    refine ⟨c, fs, env, so1, sm.mono s1, (Pst.bind px).imp fun y py w H2 s2 r2 => ?_⟩
    obtain ⟨i, rfl, py⟩ := intR_of py
    exact ⟨i, r2.int, sl_met so (s1.trans s2) (r1.later so1 s2) py⟩
theorem snd_slT (F : XF G C N sc X) {x h : Expr} {p2 pos : Pos} {a hi : IE} {t th : OT} (ha : PE X x (rE C Γ t a)) (hh : PE X h (rE C Γ th hi)) : PE X (.Subscript x (.Slice none (some h) none p2) pos) (rE C Γ .fz (.slT a hi)) :=
  PE.imp (pe_slice (slR_ok F) ha po_none (po_some hh)) fun σ H Q q => by
    obtain ⟨c, fs, env, so, sm, p⟩ := q
    refine ⟨c, fs, env, so, sm, (Pst.bind p).imp fun x px v H1 s1 r1 => ?_⟩
    have so1 := so.mono s1
    refine ⟨c, fs, env, so1, sm.mono s1, (Pst.bind px).imp fun y py w H2 s2 r2 => ?_⟩
    obtain ⟨i, rfl, py⟩ := intR_of py
    exact ⟨i, r2.int, sl_met so (s1.trans s2) (r1.later so1 s2) py⟩
end
end Pv

/-! Pv, part J: what is gone through, targets, comprehensions. -/
namespace Pv
open PySem PySem.Spec PyProof.Rows L2
variable [TabC]

/-! ### targets -/
structure OffEq (vs : List Nat) (σ σ' : L2.St) : Prop where
  len : σ'.length = σ.length
  off : ∀ j, j ∉ vs → σ'[j]? = σ[j]?
theorem OffEq.trans {vs ws : List Nat} {a b c : L2.St} (h : OffEq vs a b) (g : OffEq ws b c) : OffEq (vs ++ ws) a c :=
  ⟨g.len.trans h.len, fun j hj => (g.off j fun z => hj (List.mem_append_right _ z)).trans (h.off j fun z => hj (List.mem_append_left _ z))⟩
theorem wipe_get (σ : L2.St) : ∀ (vs : List Nat) (j : Nat), (wipe σ vs)[j]? = if j ∈ vs then (σ[j]?).map (fun _ => none) else σ[j]?
  | [], j => by simp [wipe]
  | v :: vs, j => by
    unfold wipe
    by_cases h : v = j
    · subst h
      rw [List.getElem?_set_self', wipe_get σ vs v]
      by_cases hv : v ∈ vs
      · simp [hv]
        cases σ[v]? <;> rfl
      · simp [hv]
        cases σ[v]? <;> rfl
    · rw [List.getElem?_set_ne h, wipe_get σ vs j]
      have : (j ∈ v :: vs) ↔ j ∈ vs := by simp [Ne.symm h]
      simp only [this]
theorem OffEq.wipe {vs : List Nat} {σ σ' : L2.St} (h : OffEq vs σ σ') : L2.wipe σ' vs = L2.wipe σ vs := by
  apply List.ext_getElem?
  intro j
  rw [wipe_get, wipe_get]
  by_cases hj : j ∈ vs
  · rw [if_pos hj, if_pos hj]
    by_cases hl : j < σ.length
    · rw [List.getElem?_eq_getElem hl, List.getElem?_eq_getElem (h.len ▸ hl)]
      rfl
    · have hl' : ¬ j < σ'.length := by rw [h.len]; exact hl
      rw [List.getElem?_eq_none (Nat.le_of_not_lt hl), List.getElem?_eq_none (Nat.le_of_not_lt hl')]
  · rw [if_neg hj, if_neg hj, h.off j hj]
theorem setAll_app {α : Type} (x : α) : ∀ (vs ws : List Nat) (l : List α), setAll x l (vs ++ ws) = setAll x (setAll x l vs) ws
  | [], _, _ => rfl
  | v :: vs, ws, l => setAll_app x vs ws (l.set v x)
section
variable {G : Gt} {C : Ct} {N : List Str} {sc : Scope} {X : Cx} {Γ : List OT}
def rG (C : Ct) (t : Tg) : TG := fun v σ H Q => ∃ c Γ fs env d env', SO C.T c Γ fs H σ env ∧ Rep C.T (c.A H fs.flatten) v d ∧ bindT t d env = some env' ∧
  ∀ σ', SO C.T c (setAll .fz Γ t.own) (setAll [] fs t.own) H σ' env' → Same (c.A H fs.flatten) (c.A H (setAll [] fs t.own).flatten) → OffEq t.own σ σ' → Q σ' H
def rGs (C : Ct) (t : Tg) : TGs := fun vs σ H Q => ∃ c Γ fs env ds env', SO C.T c Γ fs H σ env ∧ RepA C.T (c.A H fs.flatten) vs ds ∧ bindT t (.tup ds) env = some env' ∧
  ∀ σ', SO C.T c (setAll .fz Γ t.own) (setAll [] fs t.own) H σ' env' → Same (c.A H fs.flatten) (c.A H (setAll [] fs t.own).flatten) → OffEq t.own σ σ' → Q σ' H
theorem PG.imp {e : Expr} {t t' : TG} (h : PG X e t) (i : ∀ v σ H Q, t' v σ H Q → t v σ H Q) : PG X e t' := ⟨fun pins s σ H v u Q I r q => h.run pins s σ H v u Q I r (i v σ H Q q)⟩
theorem PGs.imp {e : List Expr} {t t' : TGs} (h : PGs X e t) (i : ∀ v σ H Q, t' v σ H Q → t v σ H Q) : PGs X e t' := ⟨fun pins s σ H v u Q I r q => h.run pins s σ H v u Q I r (i v σ H Q q)⟩
theorem sndG_nm (F : XF G C N sc X) {i : Nat} {x : Str} {pos : Pos} (hN : N[i]? = some x) (hx : Loc X.env.scope x) (hf : X.fn x = true ∨ X.env.scope.names.lookup x = some .local) : PG X (.Name x pos) (rG C (.nm i)) := by
  refine PG.imp (pg_name (i := i) (by rw [F.N]; exact F.nd) (by rw [F.N]; exact hN) hx hf) fun v σ H Q h => ?_
  obtain ⟨c, Γ, fs, env, d, env', so, r, e, q⟩ := h
  cases e
  obtain ⟨so', s'⟩ := so.setF (Ev.refl H) i r
  exact q _ so' s' ⟨by simp, fun j hj => by rw [List.getElem?_set_ne]; intro e; subst e; exact hj (by simp [Tg.own])⟩
theorem assign_plain {e : Expr} (h : plainX e = true) (es : List Expr) (env : PySem.Env) : assignEach (e :: es) env = (false, assign e env) :: assignEach es env := by
  cases e <;> first | rfl | cases h
theorem assign_list {env : PySem.Env} : ∀ {es : List Expr}, es.all plainX = true → (assignEach es env).length = es.length ∧ (assignEach es env).findIdx? (·.1) = none
  | [], _ => ⟨rfl, rfl⟩
  | e :: es, h => by
    obtain ⟨h1, h2⟩ := tail_plain h
    obtain ⟨g1, g2⟩ := assign_list (env := env) h2
    rw [assign_plain h1]
    refine ⟨by simp [g1], ?_⟩
    rw [List.findIdx?_cons]
    simp [g2]
/-- a list of targets binds as many -/
theorem bindT_len : ∀ {t : Tg} {es : List Expr} {ds : List D} {env env' : Env} {fb : Str → Bool}, chkGs N sc fb t es = true → bindT t (.tup ds) env = some env' → ds.length = es.length
  | .nil, [], ds, env, env', fb, _, e => by
    cases ds with
    | nil => rfl
    | cons _ _ => cases e
  | .nil, _ :: _, _, _, _, _, h, _ => by simp [chkGs] at h
  | .cons t ts, [], _, _, _, _, h, _ => by simp [chkGs] at h
  | .cons t ts, x :: xs, ds, env, env', fb, h, e => by
    cases ds with
    | nil => cases e
    | cons d ds =>
      simp only [chkGs, Bool.and_eq_true] at h
      simp only [bindT, Option.bind_eq_some_iff] at e
      obtain ⟨e1, _, e2⟩ := e
      have := bindT_len (t := ts) h.2 e2
      simp [this]
  | .nm _, _, _, _, _, _, h, _ => by simp [chkGs] at h
  | .tp _, _, _, _, _, _, h, _ => by simp [chkGs] at h
theorem chkGs_plain : ∀ {t : Tg} {es : List Expr} {fb : Str → Bool}, chkGs N sc fb t es = true → es.all plainX = true
  | .nil, [], _, _ => rfl
  | .nil, _ :: _, _, h => by simp [chkGs] at h
  | .cons t ts, [], _, h => by simp [chkGs] at h
  | .cons t ts, x :: xs, fb, h => by
    simp only [chkGs, Bool.and_eq_true] at h
    simp only [List.all_cons, Bool.and_eq_true]
    exact ⟨h.1.1, chkGs_plain h.2⟩
  | .nm _, _, _, h => by simp [chkGs] at h
  | .tp _, _, _, h => by simp [chkGs] at h
mutual
theorem sndG (hcm : X.calm = true) (F : XF G C N sc X) {fb : Str → Bool} (hfb : ∀ x, fb x = true → X.fn x = true) : ∀ (t : Tg) (e : Expr), chkG N sc fb t e = true → PG X e (rG C t)
  | .nm i, e, h => by
    cases e with
    | Name x pos =>
      simp only [chkG, Bool.and_eq_true, decide_eq_true_eq] at h
      obtain ⟨h1, h2⟩ := h
      split at h2
      · rename_i e
        rw [← F.sc] at e
        exact sndG_nm F h1 (.inl e) (.inr e)
      · rename_i e
        rw [← F.sc] at e
        exact sndG_nm F h1 (.inr e) (.inl (hfb _ h2))
      · cases h2
    | _ => simp [chkG] at h
  | .tp t, e, h => by
    cases e with
    | Tuple es k pos =>
      have h' : chkGs N sc fb t es = true := by simpa [chkG] using h
      have hp := chkGs_plain h'
      refine PG.imp (pg_tup hcm (sndGs hcm F hfb t es h') (assign_list hp).1 (assign_list hp).2) fun v σ H Q q => ?_
      obtain ⟨c, Γ, fs, env, d, env', so, r, e, q⟩ := q
      cases d with
      | tup ds =>
        have e' : bindT t (.tup ds) env = some env' := e
        cases r with
        | tup hv ra =>
          refine ⟨_, _, rfl, by rw [F.K]; exact seqT msk_same hv, ?_, c, Γ, fs, env, ds, env', so, ra, e', q⟩
          rw [ra.length]
          exact bindT_len h' e'
      | _ => cases e
    | _ => simp [chkG] at h
  | .nil, e, h => by cases e <;> simp [chkG] at h
  | .cons _ _, e, h => by cases e <;> simp [chkG] at h
theorem sndGs (hcm : X.calm = true) (F : XF G C N sc X) {fb : Str → Bool} (hfb : ∀ x, fb x = true → X.fn x = true) : ∀ (t : Tg) (es : List Expr), chkGs N sc fb t es = true → PGs X es (rGs C t)
  | .nil, [], _ => PGs.imp pgs_nil fun vs σ H Q q => by
    obtain ⟨c, Γ, fs, env, ds, env', so, r, e, q⟩ := q
    cases ds with
    | nil =>
      cases r
      cases e
      exact ⟨rfl, q _ so (Same.refl _) ⟨rfl, fun _ _ => rfl⟩⟩
    | cons _ _ => cases e
  | .nil, _ :: _, h => by simp [chkGs] at h
  | .cons t ts, [], h => by simp [chkGs] at h
  | .cons t ts, x :: xs, h => by
    simp only [chkGs, Bool.and_eq_true] at h
    refine PGs.imp (pgs_cons (sndG hcm F hfb t x h.1.2) (sndGs hcm F hfb ts xs h.2) (by rw [assign_plain h.1.1]; rfl)) fun vs σ H Q q => ?_
    obtain ⟨c, Γ, fs, env, ds, env', so, r, e, q⟩ := q
    cases ds with
    | nil => cases e
    | cons d ds =>
      cases r with
      | cons r1 r2 =>
        simp only [bindT, Option.bind_eq_some_iff] at e
        obtain ⟨env1, e1, e2⟩ := e
        refine ⟨_, _, rfl, c, Γ, fs, env, d, env1, so, r1, e1, fun σ1 so1 s1 o1 => ?_⟩
        refine ⟨c, _, _, env1, ds, env', so1, r2.mono s1, e2, fun σ2 so2 s2 o2 => ?_⟩
        have e3 : (Tg.cons t ts).own = t.own ++ ts.own := rfl
        refine q σ2 ?_ ?_ (by rw [e3]; exact o1.trans o2)
        · rw [e3, setAll_app, setAll_app]; exact so2
        · rw [e3, setAll_app]; exact s1.trans s2
  | .nm _, _, h => by simp [chkGs] at h
  | .tp _, _, h => by simp [chkGs] at h
end

/-! ### what is gone through -/
def ItOk (T : Tb) (A1 : Hp) (J : It) (items : List D) : Prop := ∃ (g : Hp → Prop) (Y : Nat → Hp → V → Hp → Prop), Walk J items.length g Y ∧ (∀ H2, Same A1 H2 → g H2) ∧
  ∀ i H x H', i < items.length → Same A1 H → Y i H x H' → Ev H H' ∧ ∀ B : Addr → Prop, (∀ a, B a → H a ≠ none) → Same A1 (msk H B) → ∃ d, items[i]? = some d ∧ Rep T (msk H' B) x d
def rI (C : Ct) (Γ : List OT) (e : IE) : TI := fun σ H Rr => ∃ c fs env, SO C.T c Γ fs H σ env ∧ C.xc.Sm H ∧
  Pst C.EX (fun d => ∀ items J H', d = .tup items → Ev H H' → ItOk C.T (c.A H' fs.flatten) J items → Rr J H') (ev C.S env e)
theorem PI.imp {tg e : Expr} {t t' : TI} (h : PI X tg e t) (i : ∀ σ H Q, t' σ H Q → t σ H Q) : PI X tg e t' := ⟨fun pins s σ H Q I q => h.run pins s σ H Q I (i σ H Q q)⟩
theorem item_at {T : Tb} {A : Hp} {vs : List V} {ds : List D} {i : Nat} {x : V} (r : RepA T A vs ds) (h : vs[i]? = some x) : ∃ d, ds[i]? = some d ∧ Rep T A x d := by
  have hl := r.length
  have hi : i < ds.length := by rw [← hl]; exact (List.getElem?_eq_some_iff.mp h).1
  have e := List.getElem?_eq_getElem hi
  obtain ⟨v, h1, h2⟩ := r.get e
  rw [h] at h1
  cases h1
  exact ⟨_, e, h2⟩
theorem itOk_at {T : Tb} {A1 : Hp} {J : It} {g : Hp → Prop} {xs : Nat → Option V} {items : List D} (w : Walk J items.length g (fun i H x H' => H' = H ∧ xs i = some x)) (hg : ∀ H2, Same A1 H2 → g H2)
    (hr : ∀ i x, i < items.length → xs i = some x → ∃ d, items[i]? = some d ∧ Rep T A1 x d) : ItOk T A1 J items :=
  ⟨g, _, w, hg, fun i H x H' hi s y => by
    obtain ⟨rfl, e⟩ := y
    refine ⟨Ev.refl _, fun B hB sB => ?_⟩
    obtain ⟨d, e1, r⟩ := hr i x hi e
    exact ⟨d, e1, r.mono sB⟩⟩
theorem itOk_list {T : Tb} {A1 : Hp} {a : Addr} {vs : List V} {ds : List D} (h : A1 a = some (.lst vs)) (r : RepA T A1 vs ds) : ItOk T A1 (Itl T.K a) ds :=
  itOk_at (g := fun H => SqL T.K H a vs) (xs := fun i => vs[i]?) (by rw [← r.length]; exact walk_list) (fun H2 s => SqL.of (s.lst h)) fun i x hi e => item_at r e
theorem itOk_scr {T : Tb} {A1 : Hp} {a : Addr} {ns : List Int} (h : SqL T.K A1 a (ns.map V.int)) : ItOk T A1 (Itl T.K a) (ns.map D.int) :=
  itOk_at (g := fun H => SqL T.K H a (ns.map V.int)) (xs := fun i => (ns.map V.int)[i]?) (by
    have := walk_list (K := T.K) (a := a) (xs := ns.map V.int)
    rw [List.length_map] at this ⊢
    exact this) (fun H2 s => s.seq h) fun i x hi e => item_at (RepA.of_ints ns) e
theorem itOk_tup {T : Tb} {A1 : Hp} {a : Addr} {vs : List V} {ds : List D} (h : SqT T.K A1 a vs) (r : RepA T A1 vs ds) : ItOk T A1 (Itt T.K a) ds :=
  itOk_at (g := fun H => SqT T.K H a vs) (xs := fun i => vs[i]?) (by rw [← r.length]; exact walk_tup) (fun H2 s => seqT s h) fun i x hi e => item_at r e
theorem itOk_rng {T : Tb} {A1 : Hp} {lo : Int} {n : Nat} : ItOk T A1 (L2.Itr lo n) ((List.range n).map fun k : Nat => D.int (lo + k)) :=
  itOk_at (g := fun _ => True) (xs := fun i => some (.int (lo + i))) (by
    rw [List.length_map, List.length_range]
    exact (walk_range (lo := lo) (n := n)).mono (fun _ h => h) fun i H x H' hi _ y => ⟨y.1, by rw [y.2]⟩) (fun _ _ => trivial) fun i x hi e => by
    rw [List.length_map, List.length_range] at hi
    cases e
    exact ⟨.int (lo + i), by simp [hi], .int _⟩
/-- a new pair at each turn -/
theorem itOk_pair {T : Tb} {A1 : Hp} {J : It} {g : Hp → Prop} {xs ys : Nat → Option V} {items : List D} (w : Walk J items.length g (YPair xs ys)) (hg : ∀ H2, Same A1 H2 → g H2)
    (hr : ∀ i x y, i < items.length → xs i = some x → ys i = some y → ∃ dx dy, items[i]? = some (.tup [dx, dy]) ∧ Rep T A1 x dx ∧ Rep T A1 y dy) : ItOk T A1 J items :=
  ⟨g, _, w, hg, fun i H x H' hi s y => by
    obtain ⟨T', x', y', rfl, nT, rfl, ex, ey⟩ := y
    refine ⟨same_upd nT, fun B hB sB => ?_⟩
    obtain ⟨dx, dy, e, r1, r2⟩ := hr i x' y' hi ex ey
    have sB' : Same A1 (msk (upd H T' (.tup [x', y'])) B) := sB.trans (msk_mono (same_upd nT).toSame fun _ h => .inl h)
    exact ⟨_, e, .tup (.of (msk_some.mpr ⟨fun z => hB _ z nT, upd_same⟩)) (.cons (r1.mono sB') (.cons (r2.mono sB') .nil))⟩⟩
theorem zipD_len : ∀ (a b : List D), (zipD a b).length = min a.length b.length
  | [], b => by simp [zipD]
  | _ :: _, [] => by simp [zipD]
  | x :: xs, y :: ys => by simp only [zipD, List.length_cons, zipD_len xs ys]; omega
theorem zipD_get : ∀ (a b : List D) (i : Nat) (x y : D), a[i]? = some x → b[i]? = some y → (zipD a b)[i]? = some (.tup [x, y])
  | [], _, _, _, _, h, _ => by simp at h
  | _ :: _, [], _, _, _, _, h => by simp at h
  | a :: as, b :: bs, 0, x, y, h, g => by simp at h g; subst h g; rfl
  | a :: as, b :: bs, i + 1, x, y, h, g => by
    have := zipD_get as bs i x y (by simpa using h) (by simpa using g)
    simpa [zipD] using this
theorem enuD_len : ∀ (n : Nat) (a : List D), (enuD n a).length = a.length
  | _, [] => rfl
  | n, _ :: as => by simp [enuD, enuD_len (n + 1) as]
theorem enuD_get : ∀ (n : Nat) (a : List D) (i : Nat) (x : D), a[i]? = some x → (enuD n a)[i]? = some (.tup [.int ((n + i : Nat) : Int), x])
  | _, [], _, _, h => by simp at h
  | n, a :: as, 0, x, h => by simp at h; subst h; rfl
  | n, a :: as, i + 1, x, h => by
    have := enuD_get (n + 1) as i x (by simpa using h)
    rw [show n + (i + 1) = n + 1 + i by omega]
    simpa [enuD] using this
theorem itOk_zip {T : Tb} {A1 : Hp} {k l : Bool} {a b : Addr} {vs ws : List V} {ds es : List D} (h1 : SqK k T.K A1 a vs) (h2 : SqK l T.K A1 b ws) (r1 : RepA T A1 vs ds) (r2 : RepA T A1 ws es) : ItOk T A1 (ItzQ T.K k l a b vs ws) (zipD ds es) := by
  have sq : ∀ {k : Bool} {a : Addr} {vs : List V} {H H2 : Hp}, Same H H2 → SqK k T.K H a vs → SqK k T.K H2 a vs := fun {k a vs H H2} s h => by
    cases k with
    | true => exact seqT s h
    | false => exact Same.seq s h
  refine itOk_pair (g := fun H => SqK k T.K H a vs ∧ SqK l T.K H b ws) (walk_zipQ (by rw [zipD_len, r1.length, r2.length])) (fun H2 s => ⟨sq s h1, sq s h2⟩) fun i x y hi ex ey => ?_
  obtain ⟨dx, e1, q1⟩ := item_at r1 ex
  obtain ⟨dy, e2, q2⟩ := item_at r2 ey
  exact ⟨dx, dy, zipD_get _ _ _ _ _ e1 e2, q1, q2⟩
theorem itOk_enu {T : Tb} {A1 : Hp} {a : Addr} {vs : List V} {ds : List D} (h1 : A1 a = some (.lst vs)) (r1 : RepA T A1 vs ds) : ItOk T A1 (Ite T.K a) (enuD 0 ds) := by
  refine itOk_pair (g := fun H => SqL T.K H a vs) (xs := fun i => some (.int (i : Nat))) (ys := fun i => vs[i]?) (by rw [enuD_len, ← r1.length]; exact walk_enum) (fun H2 s => SqL.of (s.lst h1)) fun i x y hi ex ey => ?_
  obtain ⟨dy, e2, q2⟩ := item_at r1 ey
  cases ex
  exact ⟨.int i, dy, by have := enuD_get 0 ds i dy e2; simpa using this, .int _, q2⟩
theorem rev_at {α : Type} {xs : List α} {i : Nat} {x : α} (hi : i < xs.length) (h : xs[xs.length - 1 - i]? = some x) : xs.reverse[i]? = some x := by
  rw [List.getElem?_reverse hi]
  exact h
theorem itOk_rev {T : Tb} {A1 : Hp} {a : Addr} {vs : List V} {ds : List D} (h : A1 a = some (.lst vs)) (r : RepA T A1 vs ds) : ItOk T A1 (Itv T.K a vs.length) ds.reverse :=
  itOk_at (g := fun H => SqL T.K H a vs) (xs := fun i => vs[vs.length - 1 - i]?) (by rw [List.length_reverse, ← r.length]; exact walk_rev) (fun H2 s => SqL.of (s.lst h)) fun i x hi e => by
    rw [List.length_reverse, ← r.length] at hi
    exact item_at r.rev (rev_at hi e)
theorem walk_revT {K : PySem.W.Frag} {a : Addr} {xs : List V} : Walk (RT.ItvT K a xs.length) xs.length (fun H => SqT K H a xs) (fun i H x H' => H' = H ∧ xs[xs.length - 1 - i]? = some x) :=
  ⟨fun i _ hi q => ⟨hi, xs, xs[xs.length - 1 - i]'(by omega), q, by simp [show xs.length - 1 - i < xs.length by omega]⟩, fun _ _ => Nat.le_refl _, fun _ _ _ _ _ q y => ⟨y.1, y.2 xs q⟩⟩
theorem itOk_revT {T : Tb} {A1 : Hp} {a : Addr} {vs : List V} {ds : List D} (h : SqT T.K A1 a vs) (r : RepA T A1 vs ds) : ItOk T A1 (RT.ItvT T.K a vs.length) ds.reverse :=
  itOk_at (g := fun H => SqT T.K H a vs) (xs := fun i => vs[vs.length - 1 - i]?) (by rw [List.length_reverse, ← r.length]; exact walk_revT) (fun H2 s => seqT s h) fun i x hi e => by
    rw [List.length_reverse, ← r.length] at hi
    exact item_at r.rev (rev_at hi e)
end
end Pv

/-! Pv, part K: what is gone through, as the text says it; comprehensions. -/
namespace Pv
open PySem PySem.Spec PyProof.Rows L2
variable [TabC]
section
variable {G : Gt} {C : Ct} {N : List Str} {sc : Scope} {X : Cx} {Γ : List OT}
/-- one operand alone -/
theorem Pst.one {EX : Str → List D → Prop} {K : D → Prop} {r : R} {f : List D → R} (h : Pst EX K (argD (consD r (.ok (.tup []))) f)) : Pst EX (fun d => Pst EX K (f [d])) r := by
  cases r <;> exact h
theorem sndI_val (F : XF G C N sc X) {tg x : Expr} {a : IE} {t : OT} (ha : PE X x (rE C Γ t a)) : PI X tg x (rI C Γ (.it .val (.cons a .nil))) := by
  refine ⟨fun pins s σ H R I q => ?_⟩
  obtain ⟨c, fs, env, so, sm, p⟩ := q
  have p1 : Pst C.EX (fun d => Pst C.EX _ (itD .val [d])) (ev C.S env a) := Pst.one p
  cases e : ev C.S env a with
  | bad => rw [e] at p1; exact p1.elim
  | ex k es =>
    rw [e] at p1
    exact (pi_list ha).run pins s σ H R I ⟨c, fs, env, so, sm, by rw [e]; exact p1⟩
  | ok d =>
    rw [e] at p1
    have p1 : Pst C.EX (fun d => ∀ items J H', d = .tup items → Ev H H' → ItOk C.T (c.A H' fs.flatten) J items → R J H') (itD .val [d]) := p1
    cases d with
    | lst ds =>
      refine (pi_list ha).run pins s σ H R I ⟨c, fs, env, so, sm, ?_⟩
      rw [e]
      intro v H1 s1 r1
      have r := r1.rep so
      cases r with
      | lst hv ra => exact ⟨_, rfl, ⟨_, .of (msk_some.mp hv).2⟩, by rw [F.K]; exact p1 _ _ _ rfl s1 (itOk_list hv ra)⟩
    | tup ds =>
      refine (pi_tup ha).run pins s σ H R I ⟨c, fs, env, so, sm, ?_⟩
      rw [e]
      intro v H1 s1 r1
      have r := r1.rep so
      cases r with
      | tup hv ra => exact ⟨_, rfl, ⟨_, by rw [F.K]; exact seqT msk_same hv⟩, by rw [F.K]; exact p1 _ _ _ rfl s1 (itOk_tup hv ra)⟩
    | scr ns =>
      refine (pi_list ha).run pins s σ H R I ⟨c, fs, env, so, sm, ?_⟩
      rw [e]
      intro v H1 s1 r1
      have r := r1.rep so
      cases r with
      | scr hv => exact ⟨_, rfl, ⟨_, by rw [F.K]; exact msk_same.seq hv⟩, by rw [F.K]; exact p1 _ _ _ rfl s1 (itOk_scr hv)⟩
    | _ => exact p1.elim
theorem rngOk_of {i : Int} (h : rngOk i = true) : -(2 ^ 62) ≤ i ∧ i < 2 ^ 62 := by
  unfold rngOk at h
  simp only [Bool.and_eq_true, decide_eq_true_eq] at h
  omega
/-- an argument list of one, of two -/
theorem rA_one {x : Expr} {a : IE} {t : OT} (hp : plainX x = true) (ha : PE X x (rE C Γ t a)) : PA X [x] (rA C Γ [t] (.cons a .nil)) := sndA_cons hp ha sndA_nil
theorem Pst.two {EX : Str → List D → Prop} {K : D → Prop} {r q : R} {f : List D → R} (h : Pst EX K (argD (consD r (consD q (.ok (.tup [])))) f)) : Pst EX (fun d => ∃ x y, d = .tup [x, y] ∧ Pst EX K (f [x, y])) (consD r (consD q (.ok (.tup [])))) := by
  cases r with
  | ok x =>
    cases q with
    | ok y => exact ⟨x, y, rfl, h⟩
    | ex k es => exact h
    | bad => exact h
  | ex k es => cases q <;> exact h
  | bad => cases q <;> exact h
theorem Pst.one' {EX : Str → List D → Prop} {K : D → Prop} {r : R} {f : List D → R} (h : Pst EX K (argD (consD r (.ok (.tup []))) f)) : Pst EX (fun d => ∃ x, d = .tup [x] ∧ Pst EX K (f [x])) (consD r (.ok (.tup []))) := by
  cases r with
  | ok x => exact ⟨x, rfl, h⟩
  | ex k es => exact h
  | bad => exact h
theorem sndI_rng1 (F : XF G C N sc X) {tg x : Expr} {p pos : Pos} {a : IE} {t : OT} (hg : glB sc "range" = true) (hin : ("range" : Str) ∈ G.bl) (hp : plainX x = true) (ha : PE X x (rE C Γ t a)) : PI X tg (.Call (.Name "range" p) [x] [] pos) (rI C Γ (.it .rng (.cons a .nil))) := by
  refine PI.imp (pi_range1 (F.gl hg) (F.ff.bl _ hin) (rA_one hp ha) (star_plain hp _ _)) fun σ H R q => ?_
  obtain ⟨c, fs, env, so, sm, p⟩ := q
  refine ⟨c, fs, env, so, sm, (Pst.one' p).imp fun d k ds vs H1 e s1 r1 => ?_⟩
  obtain ⟨x, e2, q⟩ := k
  subst e2
  cases e
  cases r1.rep so with
  | cons r rr =>
    cases rr
    cases r with
    | int j =>
      have q : Pst C.EX _ (if rngOk j = true then Pv.R.ok (.tup ((List.range j.toNat).map fun k : Nat => .int k)) else .bad) := q
      by_cases hj : rngOk j = true
      · rw [if_pos hj] at q
        refine ⟨j, rfl, (rngOk_of hj).1, (rngOk_of hj).2, q _ _ _ rfl s1 ?_⟩
        have := itOk_rng (T := C.T) (A1 := c.A H1 fs.flatten) (lo := 0) (n := j.toNat)
        simpa using this
      · rw [if_neg hj] at q
        exact q.elim
    | _ => exact q.elim
theorem sndI_rng2 (F : XF G C N sc X) {tg x y : Expr} {p pos : Pos} {a b : IE} {t u : OT} (hg : glB sc "range" = true) (hin : ("range" : Str) ∈ G.bl) (hp : plainX x = true) (hp2 : plainX y = true) (ha : PE X x (rE C Γ t a)) (hb : PE X y (rE C Γ u b)) :
    PI X tg (.Call (.Name "range" p) [x, y] [] pos) (rI C Γ (.it .rng (.cons a (.cons b .nil)))) := by
  refine PI.imp (pi_range2 (F.gl hg) (F.ff.bl _ hin) (sndA_cons hp ha (rA_one hp2 hb)) (by rw [star_plain hp, star_plain hp2]; rfl) (star_plain hp2 _ _)) fun σ H R q => ?_
  obtain ⟨c, fs, env, so, sm, p⟩ := q
  refine ⟨c, fs, env, so, sm, (Pst.two p).imp fun d k ds vs H1 e s1 r1 => ?_⟩
  obtain ⟨x, y, e2, q⟩ := k
  subst e2
  cases e
  cases r1.rep so with
  | cons r rr =>
    cases rr with
    | cons r' rr =>
      cases rr
      cases r with
      | int i =>
        cases r' with
        | int j =>
          have q : Pst C.EX _ (if (rngOk i && rngOk j) = true then Pv.R.ok (.tup ((List.range (j - i).toNat).map fun k : Nat => .int (i + k))) else .bad) := q
          by_cases hj : (rngOk i && rngOk j) = true
          · rw [if_pos hj] at q
            have hj' := Bool.and_eq_true_iff.mp hj
            exact ⟨i, j, rfl, ⟨(rngOk_of hj'.1).1, (rngOk_of hj'.1).2, (rngOk_of hj'.2).1, (rngOk_of hj'.2).2⟩, q _ _ _ rfl s1 itOk_rng⟩
          · rw [if_neg hj] at q
            exact q.elim
        | _ => exact q.elim
      | _ => exact q.elim
theorem sndI_zip (F : XF G C N sc X) {x y : Expr} {p pos tpos : Pos} {elts : List Expr} {kk : Nat} {a b : IE} {t u : OT} (hg : glB sc "zip" = true) (hin : ("zip" : Str) ∈ G.bl) (hp : plainX x = true) (hp2 : plainX y = true) (ha : PE X x (rE C Γ t a)) (hb : PE X y (rE C Γ u b)) :
    PI X (.Tuple elts kk tpos) (.Call (.Name "zip" p) [x, y] [] pos) (rI C Γ (.it .zip (.cons a (.cons b .nil)))) := by
  refine PI.imp (pi_zipQ (F.gl hg) (F.ff.bl _ hin) (sndA_cons hp ha (rA_one hp2 hb)) (star_plain hp _ _) (back_plain (by simp [hp2]))) fun σ H R q => ?_
  obtain ⟨c, fs, env, so, sm, p⟩ := q
  refine ⟨c, fs, env, so, sm, (Pst.two p).imp fun d k ds vs H1 e s1 r1 => ?_⟩
  obtain ⟨x, y, e2, q⟩ := k
  subst e2
  cases e
  rw [F.K]
  have fin : ∀ {k l : Bool} {a b : Addr} {xs ys : List V} {ds es : List D}, SqK k C.T.K (c.A H1 fs.flatten) a xs → SqK l C.T.K (c.A H1 fs.flatten) b ys → RepA C.T (c.A H1 fs.flatten) xs ds → RepA C.T (c.A H1 fs.flatten) ys es →
      (∀ items J H', D.tup (zipD ds es) = .tup items → Ev H H' → ItOk C.T (c.A H' fs.flatten) J items → R J H') →
      ∃ k l a' b' xs ys, [V.ref a, V.ref b] = [V.ref a', V.ref b'] ∧ SqK k C.T.K H1 a' xs ∧ SqK l C.T.K H1 b' ys ∧ R (ItzQ C.T.K k l a' b' xs ys) H1 := fun {k l a b xs ys ds es} h1 h2 r1 r2 q => by
    have up : ∀ {k : Bool} {a : Addr} {vs : List V}, SqK k C.T.K (c.A H1 fs.flatten) a vs → SqK k C.T.K H1 a vs := fun {k a vs} h => by
      cases k with
      | true => exact seqT msk_same h
      | false => exact Same.seq msk_same h
    exact ⟨k, l, a, b, xs, ys, rfl, up h1, up h2, q _ _ _ rfl s1 (itOk_zip h1 h2 r1 r2)⟩
  cases r1.rep so with
  | cons r rr =>
    cases rr with
    | cons r' rr =>
      cases rr
      cases r with
      | lst h1 a1 =>
        cases r' with
        | lst h2 a2 => exact fin (k := false) (l := false) (SqL.of h1) (SqL.of h2) a1 a2 q
        | tup h2 a2 => exact fin (k := false) (l := true) (SqL.of h1) h2 a1 a2 q
        | _ => exact q.elim
      | tup h1 a1 =>
        cases r' with
        | lst h2 a2 => exact fin (k := true) (l := false) h1 (SqL.of h2) a1 a2 q
        | tup h2 a2 => exact fin (k := true) (l := true) h1 h2 a1 a2 q
        | _ => exact q.elim
      | _ => cases r' <;> exact q.elim
theorem sndI_enu (F : XF G C N sc X) {x : Expr} {p pos tpos : Pos} {elts : List Expr} {kk : Nat} {a : IE} {t : OT} (hg : glB sc "enumerate" = true) (hin : ("enumerate" : Str) ∈ G.bl) (hp : plainX x = true) (ha : PE X x (rE C Γ t a)) :
    PI X (.Tuple elts kk tpos) (.Call (.Name "enumerate" p) [x] [] pos) (rI C Γ (.it .enu (.cons a .nil))) := by
  refine PI.imp (pi_enum (F.gl hg) (F.ff.bl _ hin) (rA_one hp ha) (star_plain hp _ _)) fun σ H R q => ?_
  obtain ⟨c, fs, env, so, sm, p⟩ := q
  refine ⟨c, fs, env, so, sm, (Pst.one' p).imp fun d k ds vs H1 e s1 r1 => ?_⟩
  obtain ⟨x, e2, q⟩ := k
  subst e2
  cases e
  rw [F.K]
  cases r1.rep so with
  | cons r rr =>
    cases rr
    cases r with
    | lst h1 a1 => exact ⟨_, _, rfl, .of (msk_some.mp h1).2, q _ _ _ rfl s1 (itOk_enu h1 a1)⟩
    | _ => exact q.elim
theorem sndI_rev (F : XF G C N sc X) {tg x : Expr} {p pos : Pos} {a : IE} {t : OT} (hg : glB sc "reversed" = true) (hin : ("reversed" : Str) ∈ G.bl) (hp : plainX x = true) (ha : PE X x (rE C Γ t a)) :
    PI X tg (.Call (.Name "reversed" p) [x] [] pos) (rI C Γ (.it .rev (.cons a .nil))) := by
  refine PI.imp (RT.pi_revA (F.gl hg) (F.ff.bl _ hin) ha (star_plain hp _ _)) fun σ H R q => ?_
  obtain ⟨c, fs, env, so, sm, p⟩ := q
  refine ⟨c, fs, env, so, sm, (Pst.one p).imp fun d q v H1 s1 r1 => ?_⟩
  rw [F.K]
  have r := r1.rep so
  cases r with
  | lst h1 a1 => exact ⟨_, _, rfl, .inl ⟨.of (msk_some.mp h1).2, q _ _ _ rfl s1 (itOk_rev h1 a1)⟩⟩
  | tup h1 a1 => exact ⟨_, _, rfl, .inr ⟨seqT msk_same h1, q _ _ _ rfl s1 (itOk_revT h1 a1)⟩⟩
  | _ => exact q.elim
end
end Pv

/-! Pv, part L: comprehensions. -/
namespace Pv
open PySem PySem.Spec PyProof.Rows L2
variable [TabC]
section
variable {G : Gt} {C : Ct} {N : List Str} {sc : Scope} {X : Cx} {Γ : List OT}
/-- within a comprehension: nothing is raised -/
def Ct.blk (C : Ct) : Ct := { C with EX := fun _ _ => False }
theorem XF.blk (F : XF G C N sc X) (hcm : G.cm = true) (s : Shared) (H : Hp) (scope : Scope) (Cc : Addr) (cl : List (Str × Addr)) (fp : List Addr) : XF G C.blk N (relS scope sc) (X.blk s H scope (compEnvC scope cl Cc X.env) fp) where
  K := F.K
  calm := F.calm
  nd := F.nd
  N := F.N
  sc := by rw [← F.sc]; rfl
  room := F.room
  cmr := F.cmr
  ff := F.ff
  hx := passes_call takes0 fun cls d σ H h => by
    obtain ⟨_, _, _, _, z⟩ := h
    exact z
  tb := F.tb
  lam := F.lam
  hot := fun h => absurd (hcm.symm.trans h) (by decide)
/-- a slot that stands still owns nothing -/
theorem Sl.fz_at {T : Tb} {A H : Hp} : ∀ {Γ : List OT} {fs : List (List Addr)} {σ : L2.St} {env : Env} (i : Nat), Sl T A H Γ fs σ env → ((Γ[i]?).getD .fz).isFz = true → Γ.set i .fz = Γ ∧ fs.set i [] = fs
  | _, _, _, _, _, .nil, _ => ⟨rfl, rfl⟩
  | t :: _, _, _, _, 0, .no r, h => by
    have h' : t.isFz = true := h
    cases t <;> first | exact ⟨rfl, rfl⟩ | cases h'
  | t :: _, _, _, _, 0, .is o r, h => by
    have h' : t.isFz = true := h
    cases o <;> first | exact ⟨rfl, rfl⟩ | cases h'
  | _, _, _, _, i + 1, .no r, h => by
    obtain ⟨a, b⟩ := Sl.fz_at i r (by simpa using h)
    exact ⟨by rw [List.set_cons_succ, a], by rw [List.set_cons_succ, b]⟩
  | _, _, _, _, i + 1, .is _ r, h => by
    obtain ⟨a, b⟩ := Sl.fz_at i r (by simpa using h)
    exact ⟨by rw [List.set_cons_succ, a], by rw [List.set_cons_succ, b]⟩
theorem SO.wipe {T : Tb} {c : Cfg} {fs : List (List Addr)} {H : Hp} {σ : L2.St} {env : Env} (so : SO T c Γ fs H σ env) : ∀ {vs : List Nat}, (∀ i ∈ vs, ((Γ[i]?).getD .fz).isFz = true) → SO T c Γ fs H (L2.wipe σ vs) (wipeE env vs)
  | [], _ => so
  | v :: vs, h => by
    have s1 := SO.wipe so fun i hi => h i (List.mem_cons_of_mem _ hi)
    obtain ⟨e1, e2⟩ := s1.sl.fz_at v (h v List.mem_cons_self)
    have := (s1.unset v).1
    rw [e1, e2] at this
    exact this
theorem setAll_id {α : Type} {x : α} : ∀ {vs : List Nat} {l : List α}, (∀ i ∈ vs, l.set i x = l) → setAll x l vs = l
  | [], _, _ => rfl
  | v :: vs, l, h => by
    show setAll x (l.set v x) vs = l
    rw [h v List.mem_cons_self]
    exact setAll_id fun i hi => h i (List.mem_cons_of_mem _ hi)
/-- a turn of a comprehension, in plain data -/
def turn1 (S : Sem1) (env' : Env) (e : IE) (c : IE) : Option (Option D) := match c with
    | .nil => stepC (ev S env' e)
    | c => condC (ev S env' c) (ev S env' e)
def turnC (S : Sem1) (env : Env) (e : IE) (t : Tg) (c : IE) (d : D) : Option (Option D) := envO (bindT t d (wipeE env t.own)) fun env' => turn1 S env' e c
theorem turn1_c {S : Sem1} {env : Env} {e c : IE} (h : c ≠ .nil) : turn1 S env e c = condC (ev S env c) (ev S env e) := by
  cases c <;> first | exact absurd rfl h | rfl
theorem ev_lc {S : Sem1} {env : Env} {e it c : IE} {t : Tg} : ev S env (.lc e t it c) = lcD (ev S env it) (turnC S env e t c) := by cases c <;> rfl
theorem Pst.lc {EX : Str → List D → Prop} {K : D → Prop} {r : R} {f : D → Option (Option D)} (h : Pst EX K (lcD r f)) : Pst EX (fun d => ∃ ds l, d = .tup ds ∧ ds.length ≤ lim ∧ mapO f ds = some l ∧ K (.lst l)) r := by
  refine (Pst.arg h).imp fun d ⟨ds, e, q⟩ => ?_
  split at q
  · rename_i hl
    split at q
    · rename_i l el
      exact ⟨ds, l, e, hl, el, q⟩
    · exact q.elim
  · exact q.elim
/-- all that a comprehension's walk leans on -/
def LcB (X : Cx) (elt tg iter : Expr) (ifs : List Expr) (scope : Scope) (t : TE) : Prop := ∃ (own : List (Str × Nat)) (wi : TI) (g : TG) (tt : TT) (te : TE), PI X tg iter wi ∧ BlkOk X.N X.env.scope scope own ∧
  (∀ (s : Shared) (H : Hp) (Cc : Addr) (cl : List (Str × Addr)) (fp : List Addr), PG (X.blk s H scope (compEnvC scope cl Cc X.env) fp) tg g) ∧
  (∀ (s : Shared) (H : Hp) (Cc : Addr) (cl : List (Str × Addr)) (fp : List Addr), PTs (X.blk s H scope (compEnvC scope cl Cc X.env) fp) ifs tt) ∧
  (∀ (s : Shared) (H : Hp) (Cc : Addr) (cl : List (Str × Addr)) (fp : List Addr), PE (X.blk s H scope (compEnvC scope cl Cc X.env) fp) elt te) ∧
  (∀ x, foldedSetIterable iter X.env x = pure x) ∧ ∀ σ H Q, t σ H Q → tLc wi g tt te (own.map (·.2)) σ H Q
/-- what a turn wants: the target's binding, the test, the item -/
theorem snd_lcB (F : XF G C N sc X) {elt tg iter : Expr} {ifs : List Expr} {scope : Scope} {e it c : IE} {t : Tg} {te : OT} {tt : TT} (hfold : ∀ x, foldedSetIterable iter X.env x = pure x) (hi : PI X tg iter (rI C Γ it))
    (ok : blkC N sc scope (blkOwn N t) = true) (hz : (t.own.all fun i => ((Γ[i]?).getD .fz).isFz) = true)
    (hg : ∀ (s : Shared) (H : Hp) (Cc : Addr) (cl : List (Str × Addr)) (fp : List Addr), PG (X.blk s H scope (compEnvC scope cl Cc X.env) fp) tg (rG C.blk t))
    (ht : ∀ (s : Shared) (H : Hp) (Cc : Addr) (cl : List (Str × Addr)) (fp : List Addr), PTs (X.blk s H scope (compEnvC scope cl Cc X.env) fp) ifs tt)
    (he : ∀ (s : Shared) (H : Hp) (Cc : Addr) (cl : List (Str × Addr)) (fp : List Addr), PE (X.blk s H scope (compEnvC scope cl Cc X.env) fp) elt (rE C.blk Γ te e))
    (htt : (c = .nil ∧ tt = tYes) ∨ (c ≠ .nil ∧ tt = rT C.blk Γ c)) : LcB X elt tg iter ifs scope (rE C Γ (.ol .fz) (.lc e t it c)) := by
  have hz' : ∀ i ∈ t.own, ((Γ[i]?).getD .fz).isFz = true := fun i hi => List.all_eq_true.mp hz i hi
  have eo : (blkOwn N t).map (·.2) = t.own := by
    unfold blkOwn
    rw [List.map_map]
    exact List.map_id _
  refine ⟨blkOwn N t, rI C Γ it, rG C.blk t, tt, rE C.blk Γ te e, hi, blkOk_by (by rw [F.N, F.sc]; exact ok), hg, ht, he, hfold, fun σ H Q q => ?_⟩
  rw [eo]
  obtain ⟨cf, fs, env, so, sm, p⟩ := q
  rw [ev_lc] at p
  refine ⟨cf, fs, env, so, sm, (Pst.lc p).imp fun d ⟨ds, l, ed, hlim, hmap, fin⟩ items J H1 e1 s1 itok q0 nD => ?_⟩
  rw [ed] at e1
  obtain rfl : ds = items := by injection e1
  obtain ⟨g, Y, w, hgs, hy⟩ := itok
  have nDH : H q0 = none := s1.free nD
  -- the frame without the new list
  have so1 := so.mono s1
  have so2 : SO C.T { cf with U := fun a => cf.U a ∨ a ∈ [q0] } Γ fs (upd H1 q0 (.lst [])) σ env := so1.hide (same_upd nD) (fun a ha => by rw [List.mem_singleton] at ha; rw [ha]; exact nD) fun a ha => by rw [List.mem_singleton] at ha; rw [ha, upd_same]; simp
  have so3 := so2.wipe hz'
  have WD : q0 ∉ fs.flatten := fun h => so1.dom q0 h nD
  -- the part that stands still, ahead of the turns
  have A0 : Same (cf.A H1 fs.flatten) (Cfg.A { cf with U := fun a => cf.U a ∨ a ∈ [q0] } (upd H1 q0 (.lst [])) fs.flatten) := msk_mono (same_upd nD).toSame fun a q => by
    rcases q with (q | q) | q
    · exact .inl (.inl q)
    · rw [List.mem_singleton] at q; rw [q]; exact .inr nD
    · exact .inl (.inr q)
  refine lc_it w (fun i Hc => ∃ av ad rest, Hc q0 = some (.lst av) ∧ RepA C.T (Cfg.A { cf with U := fun a => cf.U a ∨ a ∈ [q0] } Hc fs.flatten) av ad ∧ ad.length ≤ i ∧ mapO (turnC C.S env e t c) (ds.drop i) = some rest ∧ l = ad ++ rest ∧
      SO C.T { cf with U := fun a => cf.U a ∨ a ∈ [q0] } Γ fs Hc (L2.wipe σ t.own) (wipeE env t.own) ∧ Ev H1 Hc ∧ Same (cf.A H1 fs.flatten) (Cfg.A { cf with U := fun a => cf.U a ∨ a ∈ [q0] } Hc fs.flatten))
    ⟨[], [], l, upd_same, .nil, Nat.le_refl _, hmap, rfl, so3, same_upd nD, A0⟩ (fun i Hc hi ⟨_, _, _, _, _, _, _, _, _, _, sA⟩ => hgs _ (sA.trans msk_same)) ?_ ?_
  · rintro i x Hc H' hi ⟨av, ad, rest, eD, ra, hl, hm, el, soc, sH, sA⟩ y
    obtain ⟨sy, hrep⟩ := hy i Hc x H' hi (sA.trans msk_same) y
    obtain ⟨d, ed, rd⟩ := hrep (fun a => (cf.U a ∨ a ∈ [q0]) ∨ a ∈ fs.flatten) (fun a q => q.elim (soc.dm a) (soc.dom a)) sA
    have soc' := soc.mono sy
    have edrop : ds.drop i = d :: ds.drop (i + 1) := by
      rw [List.drop_eq_getElem_cons hi]
      rw [List.getElem?_eq_getElem hi] at ed
      cases ed
      rfl
    rw [edrop] at hm
    -- what the turn does
    have hm' : (match turnC C.S env e t c d with
      | none => none
      | some none => mapO (turnC C.S env e t c) (ds.drop (i + 1))
      | some (some v) => (mapO (turnC C.S env e t c) (ds.drop (i + 1))).map (v :: ·)) = some rest := hm
    cases eb : bindT t d (wipeE env t.own) with
    | none =>
      have : turnC C.S env e t c d = none := by unfold turnC; rw [eb]; rfl
      rw [this] at hm'
      cases hm'
    | some env' =>
      have et : turnC C.S env e t c d = turn1 C.S env' e c := by unfold turnC; rw [eb]; rfl
      refine ⟨_, Γ, fs, wipeE env t.own, d, env', soc', rd, eb, fun σ2 so4 sA4 off => ?_⟩
      have f1 : setAll .fz Γ t.own = Γ := setAll_id fun j hj => (soc'.sl.fz_at j (hz' j hj)).1
      have f2 : setAll [] fs t.own = fs := setAll_id fun j hj => (soc'.sl.fz_at j (hz' j hj)).2
      rw [f1, f2] at so4
      rw [f2] at sA4
      refine ⟨by
        have z := off.wipe
        rw [z]
        apply List.ext_getElem?
        intro j
        rw [wipe_get, wipe_get]
        by_cases hj : j ∈ t.own
        · rw [if_pos hj]
          cases σ[j]? <;> simp [hj]
        · rw [if_neg hj], ?_⟩
      -- the item's turn
      have smc : C.blk.xc.Sm H' := sm.mono (s1.trans (sH.trans sy))
      have sAH : Same (Cfg.A { cf with U := fun a => cf.U a ∨ a ∈ [q0] } Hc fs.flatten) (Cfg.A { cf with U := fun a => cf.U a ∨ a ∈ [q0] } H' fs.flatten) := Cfg.A_mono sy
      have take : ∀ v, stepC (ev C.S env' e) = some (some v) → ∀ H3, Ev H' H3 → (∃ r2, rest = v :: r2 ∧ mapO (turnC C.S env e t c) (ds.drop (i + 1)) = some r2) →
          rE C.blk Γ te e σ2 H3 fun y H4 => ∃ acc, H4 q0 = some (.lst acc) ∧ acc.length < sizeLine ∧ (∃ av ad rest, (upd H4 q0 (.lst (acc ++ [y]))) q0 = some (.lst av) ∧
            RepA C.T (Cfg.A { cf with U := fun a => cf.U a ∨ a ∈ [q0] } (upd H4 q0 (.lst (acc ++ [y]))) fs.flatten) av ad ∧ ad.length ≤ i + 1 ∧ mapO (turnC C.S env e t c) (ds.drop (i + 1)) = some rest ∧ l = ad ++ rest ∧
            SO C.T { cf with U := fun a => cf.U a ∨ a ∈ [q0] } Γ fs (upd H4 q0 (.lst (acc ++ [y]))) (L2.wipe σ t.own) (wipeE env t.own) ∧ Ev H1 (upd H4 q0 (.lst (acc ++ [y]))) ∧
            Same (cf.A H1 fs.flatten) (Cfg.A { cf with U := fun a => cf.U a ∨ a ∈ [q0] } (upd H4 q0 (.lst (acc ++ [y]))) fs.flatten)) := fun v ev2 H3 s3 ⟨r2, er, em⟩ => by
        have so5 := so4.mono s3
        refine ⟨_, fs, env', so5, smc.mono s3, ?_⟩
        show Pst _ _ (ev C.S env' e)
        cases e3 : ev C.S env' e with
        | bad => rw [e3] at ev2; cases ev2
        | ex k es => rw [e3] at ev2; cases ev2
        | ok d' =>
          rw [e3] at ev2
          have : d' = v := by
            have z : some (some d') = some (some v) := ev2
            simpa using z
          subst this
          intro yv H4 s4 r4
          have rv := r4.rep so5
          have sc4 : Ev Hc H4 := (sy.trans s3).trans s4
          have eD4 : H4 q0 = some (.lst av) := sc4.lst eD
          -- storing into the new list leaves what stands still
          have sU : ∀ o, Same (Cfg.A { cf with U := fun a => cf.U a ∨ a ∈ [q0] } H4 fs.flatten) (Cfg.A { cf with U := fun a => cf.U a ∨ a ∈ [q0] } (upd H4 q0 o) fs.flatten) := fun o => Same.of2 fun a ob h => by
            obtain ⟨h1, h2⟩ := msk_some.mp h
            refine msk_some.mpr ⟨h1, ?_⟩
            rw [upd_ne fun e => h1 (.inl (.inr (by rw [e]; simp)))]
            exact h2
          have sA5 : Same (Cfg.A { cf with U := fun a => cf.U a ∨ a ∈ [q0] } Hc fs.flatten) (Cfg.A { cf with U := fun a => cf.U a ∨ a ∈ [q0] } H4 fs.flatten) := Cfg.A_mono sc4
          have ha : av.length ≤ i := by rw [ra.length]; exact hl
          refine ⟨av, eD4, Nat.lt_of_le_of_lt ha (Nat.lt_of_lt_of_le hi (Nat.le_trans hlim lim_le)), av ++ [yv], ad ++ [d'], r2, upd_same, ((ra.mono sA5).append (.cons rv .nil)).mono (sU _), by simp; omega, em, by rw [el, er]; simp, ?_, ?_, ?_⟩
          · have soc4 := soc.mono sc4
            refine ⟨soc4.sl.mono (sU _) fun a ha o _ h => ?_, soc4.nd, soc4.fr, soc4.un, fun a h => ?_, ⟨fun {a o} h n k => ?_, fun {a ps} h => ?_, fun h => tabs_upd eD4 pln_lst (soc4.sm.ta h)⟩, soc4.sf⟩
            · rw [upd_ne fun e => WD (by rw [← e]; exact ha)]; exact h
            · by_cases e : a = q0
              · rw [e, upd_same]; simp
              · rw [upd_ne e]; exact soc4.dm a h
            · rw [upd_ne fun e => ?_]
              · exact soc4.sm.at_ h n k
              · subst e
                have z := so1.sm.at_ h n k
                rw [nD] at z
                cases z
            · obtain ⟨ps', z⟩ := soc4.sm.tb h
              refine ⟨ps', ?_⟩
              rw [upd_ne fun e => ?_]
              · exact z
              · rw [e, eD4] at z
                cases z
          · refine ⟨⟨fun {a o} h n => ?_, fun {a ps} h => ?_⟩, fun h => tabs_upd eD4 pln_lst (sc4.ta (sH.ta h))⟩
            · rw [upd_ne (ne_of_none h nD)]
              exact sc4.at_ (sH.at_ h n) n
            · obtain ⟨ps', z⟩ := (sH.trans sc4).tb h
              exact ⟨ps', by rw [upd_ne (ne_of_none h nD)]; exact z⟩
          · exact (sA.trans sA5).trans (sU _)
      have skip : mapO (turnC C.S env e t c) (ds.drop (i + 1)) = some rest → ∀ H3, Ev H' H3 → (∃ av ad rest, H3 q0 = some (.lst av) ∧ RepA C.T (Cfg.A { cf with U := fun a => cf.U a ∨ a ∈ [q0] } H3 fs.flatten) av ad ∧ ad.length ≤ i + 1 ∧ mapO (turnC C.S env e t c) (ds.drop (i + 1)) = some rest ∧ l = ad ++ rest ∧
          SO C.T { cf with U := fun a => cf.U a ∨ a ∈ [q0] } Γ fs H3 (L2.wipe σ t.own) (wipeE env t.own) ∧ Ev H1 H3 ∧ Same (cf.A H1 fs.flatten) (Cfg.A { cf with U := fun a => cf.U a ∨ a ∈ [q0] } H3 fs.flatten)) := fun em H3 s3 =>
        ⟨av, ad, rest, (sy.trans s3).lst eD, ra.mono (Cfg.A_mono (sy.trans s3)), by omega, em, el, soc.mono (sy.trans s3), sH.trans (sy.trans s3), sA.trans (Cfg.A_mono (sy.trans s3))⟩
      rw [et] at hm'
      rcases htt with ⟨rfl, rfl⟩ | ⟨hc, rfl⟩
      · unfold tYes
        dsimp only
        rw [if_pos rfl]
        have hm2 : (match stepC (ev C.S env' e) with
          | none => none
          | some none => mapO (turnC C.S env e t .nil) (ds.drop (i + 1))
          | some (some v) => (mapO (turnC C.S env e t .nil) (ds.drop (i + 1))).map (v :: ·)) = some rest := hm'
        cases e3 : ev C.S env' e with
        | bad => rw [e3] at hm2; cases hm2
        | ex k es => rw [e3] at hm2; cases hm2
        | ok v =>
          rw [e3] at hm2
          have hm3 : (mapO (turnC C.S env e t .nil) (ds.drop (i + 1))).map (v :: ·) = some rest := hm2
          obtain ⟨r2, h1, h2⟩ := Option.map_eq_some_iff.mp hm3
          exact take v (by rw [e3]; rfl) H' (Ev.refl _) ⟨r2, h2.symm, h1⟩
      · rw [turn1_c hc] at hm'
        have hm2 : (match condC (ev C.S env' c) (ev C.S env' e) with
          | none => none
          | some none => mapO (turnC C.S env e t c) (ds.drop (i + 1))
          | some (some v) => (mapO (turnC C.S env e t c) (ds.drop (i + 1))).map (v :: ·)) = some rest := hm'
        refine ⟨_, fs, env', so4, smc, ?_⟩
        show Pst _ _ (ev C.S env' c)
        cases e4 : ev C.S env' c with
        | bad => rw [e4] at hm2; cases hm2
        | ex k es => rw [e4] at hm2; cases hm2
        | ok dc =>
          rw [e4] at hm2
          cases dc with
          | bl b =>
            refine ⟨b, rfl, fun H3 s3 => ?_⟩
            cases b with
            | true =>
              rw [if_pos rfl]
              have hm3 : (match stepC (ev C.S env' e) with
                | none => none
                | some none => mapO (turnC C.S env e t c) (ds.drop (i + 1))
                | some (some v) => (mapO (turnC C.S env e t c) (ds.drop (i + 1))).map (v :: ·)) = some rest := hm2
              cases e3 : ev C.S env' e with
              | bad => rw [e3] at hm3; cases hm3
              | ex k es => rw [e3] at hm3; cases hm3
              | ok v =>
                rw [e3] at hm3
                have hm4 : (mapO (turnC C.S env e t c) (ds.drop (i + 1))).map (v :: ·) = some rest := hm3
                obtain ⟨r2, h1, h2⟩ := Option.map_eq_some_iff.mp hm4
                exact take v (by rw [e3]; rfl) H3 s3 ⟨r2, h2.symm, h1⟩
            | false =>
              rw [if_neg Bool.false_ne_true]
              exact skip hm2 H3 s3
          | _ => cases hm2
  · rintro Hc ⟨av, ad, rest, eD, ra, hl, hm, el, soc, sH, sA⟩
    have : ds.drop ds.length = [] := by simp
    rw [this] at hm
    have er : rest = [] := by
      have z : some ([] : List Pv.D) = some rest := hm
      simpa using z.symm
    subst er
    rw [List.append_nil] at el
    subst el
    refine fin _ _ (s1.trans sH) ⟨[q0], by simp, fun a ha => by rw [List.mem_singleton] at ha; rw [ha]; exact nDH, .ol eD (.of_rep (ra.mono (msk_mono (Same.refl _) fun a q => .inl ?_)))⟩
    rcases q with q | q
    · exact .inl (.inl q)
    · rcases List.mem_append.mp q with q | q
      · exact .inr q
      · exact .inl (.inr q)
theorem LcB.pe (hcm : X.calm = true) (F : XF G C N sc X) {elt tg iter : Expr} {ifs : List Expr} {scope : Scope} {pos : Pos} {t : TE} (h : LcB X elt tg iter ifs scope t) : PE X (.ListComp elt [⟨tg, iter, ifs, 0⟩] scope pos) t := by
  obtain ⟨own, wi, g, tt, te, hi, ok, hg, ht, he, hs, im⟩ := h
  exact PE.imp (pe_lc hcm (by rw [F.N]; exact F.nd) hi ok hg ht he hs) im
end
end Pv

/-! Pv, part Lm: lambdas handed to the def that calls them and tells of the error. -/
namespace Pv
open PySem PySem.Spec PyProof.Rows L2
variable [TabC]
/-! ### a lambda is made -/
section
variable {X : Cx} {pins : List (Addr × Obj)} {σ : L2.St} {H : Hp} {s : Shared}
theorem ev_tab {P c : Addr} {q : Str} {ps more : Array Value} (hP : H P = some (.tbl ps)) (nC : H c = none) (hT : LamX.Tabs TabC.tl H → LamX.Tabs TabC.tl (upd (upd H P (.tbl (ps ++ more))) c (LamX.CodeO c q))) :
    Ev H (upd (upd H P (.tbl (ps ++ more))) c (LamX.CodeO c q)) := by
  refine ⟨⟨fun {b o} e n => ?_, fun {b qs} e => ?_⟩, hT⟩
  · have n2 : b ≠ P := fun z => by
      rw [z, hP] at e
      cases e
      exact n _ rfl
    rw [upd_ne (ne_of_none e nC), upd_ne n2]
    exact e
  · rw [upd_ne (ne_of_none e nC)]
    by_cases z : b = P
    · rw [z, upd_same]; exact ⟨_, rfl⟩
    · rw [upd_ne z]; exact ⟨_, e⟩
/-- a table with one code more -/
theorem tabs_more {P c : Addr} {q : Str} {ps : Array Value} {pos : Pos} (hT : LamX.Tabs TabC.tl H) (hP : H P = some (.tbl ps)) (ht : TriplesOk ps.toList) (nC : H c = none) (hu : ∀ p ∈ TabC.tl, p.1 = P → p.2 = q) :
    LamX.Tabs TabC.tl (upd (upd H P (.tbl (ps ++ #[rawInt pos.line, rawInt pos.col, .ref c]))) c (LamX.CodeO c q)) := fun p hp => by
  obtain ⟨qs, a1, a2, a3⟩ := hT p hp
  have keep : ∀ {b : Addr} {r : Str}, H b = some (LamX.CodeO b r) → upd (upd H P (.tbl (ps ++ #[rawInt pos.line, rawInt pos.col, .ref c]))) c (LamX.CodeO c q) b = some (LamX.CodeO b r) := fun {b r} e => by
    have n2 : b ≠ P := fun z => by
      rw [z, hP] at e
      exact LamX.codeO_ne ps (Option.some.inj e).symm
    rw [upd_ne (ne_of_none e nC), upd_ne n2]
    exact e
  by_cases hb : p.1 = P
  · have eq := hu p hp hb
    rw [hb, hP] at a1
    cases a1
    rw [hb, eq]
    have el : (ps ++ #[rawInt pos.line, rawInt pos.col, .ref c]).toList = ps.toList ++ [rawInt pos.line, rawInt pos.col, .ref c] := by simp
    refine ⟨_, by rw [upd_ne (ne_of_none hP nC), upd_same], by rw [el]; exact PySem.TriplesOk_snoc _ _ _ _ ht, fun p' cv hcv => ?_⟩
    rw [el] at hcv
    rcases LamX.among_app _ ht hcv with z | z
    · obtain ⟨c0, e1, e2⟩ := a3 p' cv z
      rw [eq] at e2
      exact ⟨c0, e1, keep e2⟩
    · exact ⟨c, z, upd_same⟩
  · refine ⟨qs, by rw [upd_ne (ne_of_none a1 nC), upd_ne hb]; exact a1, a2, fun p' cv hcv => ?_⟩
    obtain ⟨c0, e1, e2⟩ := a3 p' cv hcv
    exact ⟨c0, e1, keep e2⟩
theorem lam_ev {params : Arguments} {body : Expr} {scope : Scope} {pos : Pos} {E Q : Value → Shared → Prop} (I : Inv X pins σ H s) (lo : LamOk X) (hT : LamX.Tabs TabC.tl H) (hdef : defaultsOf params X.env = ([], []))
    (hfree : ∀ y ∈ scope.names, y.2 = .free → ∃ c, X.env.cells.lookup y.1 = some c)
    (h : ∀ (f c' : Addr) (pm ctv : Value) (H1 : Hp) (s' : Shared), Inv X pins σ H1 s' → Ev H H1 → LamX.Tabs TabC.tl H1 → s'.heap.get? f = some (PySem.W.kla_obj "<lambda>" (X.env.qual ++ "<lambda>") params body scope (cloFrom X.env.cells scope.names []) pm c' ctv) →
      H1 f = none → f ∉ frs X.stack → H1 c' = some (LamX.CodeO c' (X.env.qual ++ "<lambda>")) → Q (.ref f) s') :
    wpAny (model X.prog X.w) X.A (eval (.Lambda params body scope pos) X.env) Q E s := by
  obtain ⟨c, P, TB, hcode, hm, hu⟩ := lo
  obtain ⟨ps, hP, ht, ha⟩ := hT _ hm
  have bP : s.heap.BuiltinsAt X.mg P := TB.bm.keeps I.bk
  have gP : s.heap.get? P = some { cls := .none, data := .fields ps } := I.hok P _ hP
  have outF : ∀ f, s.heap.objs.size ≤ f → f ∉ frs X.stack := fun f hf z => by
    rcases List.mem_cons.mp (I.stkSub _ z) with e | e
    · exact absurd (Nat.lt_of_lt_of_le I.lt (e ▸ hf)) (Nat.lt_irrefl _)
    · exact I.nofs hf e
  refine PySem.W.kla_eval hdef ?_
  cases hc : codeAmong pos ps.toList with
  | some cv =>
    obtain ⟨c', e, hco⟩ := ha pos cv hc
    subst e
    refine PySem.W.kla_makeFunctionHit (mg := X.mg) (c := c) (P := P) (ps := ps) (closure_ok hfree) I.ok.glob (I.mod.glob.keeps I.bk) hcode (TB.code.keeps I.bk) gP ht hc bP fun ctv h' tk hx hsz => ?_
    exact h h'.objs.size c' ((X.mg "__name__").getD .none) ctv H _ (I.kept fun b o e => Heap.get?_push_of_some _ (hx b o e)) (Ev.refl H) hT (Heap.get?_push_size _ rfl) (I.hok.fresh hsz) (outF _ hsz) hco
  | none =>
    refine PySem.W.kla_makeFunction (mg := X.mg) (c := c) (P := P) (ps := ps) (closure_ok hfree) I.ok.glob (I.mod.glob.keeps I.bk) hcode (TB.code.keeps I.bk) gP ht hc TB.gP bP fun c' ctv h' tk hx hge hlt hrec htb => ?_
    obtain ⟨c2, oc, vs, t, e2, hoc, hd, hv⟩ := hrec
    cases e2
    have hsz := Nat.le_trans hge (Nat.le_of_lt hlt)
    have nC : H c' = none := I.hok.fresh hge
    have T1 := tabs_more (pos := pos) hT hP ht nC hu
    refine h h'.objs.size c' ((X.mg "__name__").getD .none) ctv _ _ (LamX.inv_table (t' := tk) (more := #[rawInt pos.line, rawInt pos.col, .ref c']) I hP (fun b o hb e => Heap.get?_push_of_some _ (hx b o hb e)) (Heap.get?_push_of_some _ htb) hge ⟨oc, vs, t, Heap.get?_push_of_some _ hoc, hd, hv⟩)
      (ev_tab hP nC fun _ => T1) T1 (Heap.get?_push_size _ rfl) ?_ (outF _ hsz) upd_same
    rw [upd_ne (Nat.ne_of_gt hlt), upd_ne (Nat.ne_of_gt (Nat.lt_of_lt_of_le (Heap.lt_size gP) hsz))]
    exact I.hok.fresh hsz
end
/-! ### x(lambda: body) -/
def tLamE (TT : (XK → Hp → VK → Prop) → Hp → VK → Prop) (t : XK → TE) : TE := fun σ H Q => LamX.Tabs TabC.tl H ∧ ∀ H1, Ev H H1 → LamX.Tabs TabC.tl H1 → TT (fun E H' Q' => t E σ H' Q') H1 Q
theorem pe_lamE {X : Cx} {TT : (XK → Hp → VK → Prop) → Hp → VK → Prop} {x a : Str} {g : Addr} {k : Nat} {pg : Arguments} {bg : List Stmt} {sg : Scope} {gd : FuncData} {Ng : List Str} {params : Arguments} {body : Expr} {scope : Scope} {t : XK → TE} {p lpos pos : Pos}
    (hg : Gl X x) (hm : X.mg x = some (.ref g)) (Fg : FunD X.K x x pg bg sg [] [] g gd) (hb : L2.Binds X.K gd [a] []) (Sg : FnScope Ng [a] sg) (hNg : Ng[0]? = some a) (hva : Vis sg a)
    (hG : ∀ cdg, LamX.GivesTo X Ng x sg g cdg bg a (X.env.qual ++ "<lambda>") TT) (lo : LamOk X) (hr : Room (k + 2) X.A) (L : LamX.LamS X.env.scope scope) (hdef : defaultsOf params X.env = ([], []))
    (hbind : ∀ (q : Str) (cl : List (Str × Addr)) (pm cv ctv : Value), bindArgs (PySem.W.kla_fn "<lambda>" q params body scope cl pm cv ctv) ⟨[], []⟩ = pure [])
    (hbody : ∀ (A : Around) (outer : List PySem.Env) (s : Shared) (H : Hp) (E : XK) (f c' : Addr), Room k (A.deeper (LamX.lamEnv X scope s.heap.objs.size f c')) → PE (LamX.lamCx X A outer s H E scope f c') body (t E))
    (hdb : (x == ("__debug__" : Str)) = false) (hd : (a == ("__debug__" : Str)) = false) (hcd : (a == ("__classdict__" : Str)) = false) :
    PE X (.Call (.Name x p) [.Lambda params body scope lpos] [] pos) (tLamE TT t) := by
  obtain ⟨oc, od, dV, kV, doc, pm, an, cdg, ct, osl, rfl, lk, hcg, _, _⟩ := Fg.ex
  refine ⟨fun pins s σ H Q I hh => wpAny_Call_Name_kw (ld_glob I hg hm (PySem.W.callWith_K (h₀ := X.base) I.ok.mod.kin Fg.kp ?_ (by rfl) (by rfl)) hdb)⟩
  obtain ⟨hT, h⟩ := hh
  show wpAny _ _ (spliced ((false, eval (.Lambda params body scope lpos) X.env) :: backTo pos (starEach [] X.env))) _ _ s
  refine Calls.spliced_cons (lam_ev I lo hT hdef (L.has I.ok) fun f c' pm' ctv H1 s' I1 eN T1 hf hfn hfr hco => Calls.spliced_nil ⟨I1.kIn, ?_⟩)
  have rc : codeAny (model X.prog X.w) X.A (.call (.ref g) ⟨[.ref f], []⟩) (CR C8.CX0 X.stack X.prog X.w H1 s' Q C8.E0) s' :=
    LamX.run_ofS (N := Ng) (ps := [a]) (us := [.ref f]) (vs := [.ref f]) lk hcg Sg hr I1.env0 (hb s' [.ref f] I1.kIn rfl) (.cons rfl .nil) rfl fun hr' => by
      obtain ⟨t', ht', hq'⟩ := hG cdg f c' s' H1 Q (fun E H' Q' => t E σ H' Q') (fun W pn xe E p1 p2 tk hW => LamX.pe_act (i := 0) I1 L hf hfn hfr (hbind _ _ _ _ _) tk hW hr' (fun A outer s H hr2 => hbody A outer s H E f c' hr2) hNg hva hd hcd) hco (h H1 eN T1)
      exact ⟨t', ht'.nox, hq'⟩
  refine wpAny_call (codeAny_mono rc fun r s2 hq => ?_)
  cases r with
  | error e => exact (show False from hq).elim
  | ok fl => cases fl <;> first | exact I1.after hq | exact False.elim hq
/-! ### a def called where an exception is handled -/
theorem hot_of {P : Program} {w : World} {K : PySem.W.Frag} {mg : Str → Option Value} {base : Heap} {k : Nat} {f : Addr} {p : Addr × Obj} {name qual : Str} {params : Arguments} {body : List Stmt} {scope : Scope} {dvs : List V} {kws : List (Str × V)} {fd : FuncData} {N ps : List Str} {sp : Sp}
    (F : FunD K name qual params body scope dvs kws f fd) (S : FnScope N ps scope) (len : ∀ vs H Q E, sp vs H Q E → vs.length = ps.length)
    (hbody : ∀ (cdv : Value) (A : Around) (outer : List PySem.Env) (s : Shared) (H : Hp) (vs : List V) (Q : VK), L2H.RoomH k (A.deeper (envOfC qual scope s.heap.objs.size f cdv)) → sp vs H Q C8.E0 →
      ∃ t, PSs (L2H.cxH C8.CX0 P w K mg base N qual scope f cdv A outer s H C8.E0 p) body t ∧ t { nx := fun _ H' => Q .non H', rt := Q } (L2.start N vs) H) :
    HotRun P w K mg base (k + 1) p f fd ps sp := by
  obtain ⟨oc, od, dV, kV, doc, pm, an, cdv, ct, osl, rfl, lk, hcd, _, _⟩ := F.ex
  intro A outer s H args us vs Q hr hpin e0 hb r hsp
  have KX : K.In s.heap := e0.mod.kin.keeps fun b o e => (e0.bs b o e).1
  refine codeAny_call_function hr.depth (KX _ _ lk) rfl S.co S.gen rfl (PySem.W.codeRec_of KX hcd) (hb _ _ _ _ (wpAny_newFunctionEnv_cells S.kind ?_ fun env he s1 x => ?_))
  · rintro ⟨n, v⟩ hy
    exact (S.par n (List.of_mem_zip hy).1).imp id fun q => ⟨q, PySem.W.cellsFrom_some _ _ _ (.inl q)⟩
  · subst he
    refine ⟨(e0.mod.nolimit.keeps fun b o e => (e0.bs b o e).1).keeps x.toInCall.keep, codeAny_func ?_⟩
    obtain ⟨t, ht, hq⟩ := hbody cdv A outer s H vs Q (hr.deeper _) hsp
    have I := L2H.inv_startH (CX := C8.CX0) (E := C8.E0) (f := f) (cd := cdv) (qual := qual) S hpin e0 (len _ _ _ _ hsp) r x
    refine wpAny_mono (ht.run [] s1 (L2.start N vs) H _ I hq) (fun fl s' hs => ?_) fun e s' hs => hs
    cases fl with
    | ret u =>
      obtain ⟨v, σ', H', J, rv, q⟩ := hs
      exact ⟨v, H', J.os, J.bare, J.base, J.hok, rv, q⟩
    | next =>
      obtain ⟨σ', H', J, q⟩ := hs
      exact ⟨.non, H', J.os, J.bare, J.base, J.hok, rfl, q⟩
    | _ =>
      obtain ⟨_, _, _, q⟩ := hs
      exact q.elim
theorem pe_hcall {X : Cx} {p : Addr × Obj} {k : Nat} {f : Addr} {fd : FuncData} {ps : List Str} {sp : Sp} {x : Str} {q pos : Pos} {e : Expr} {es : List Expr} {t : TA} (hp : p ∈ X.pn) (F : HotRun X.prog X.w X.K X.mg X.base k p f fd ps sp) (hr : L2H.RoomH k X.A) (hg : Gl X x) (hm : X.mg x = some (.ref f))
    (hk : PySem.W.keepIn X.K (.ref f) = true) (hb : Binds X.K fd ps []) (len : ∀ vs H Q, sp vs H Q C8.E0 → vs.length = ps.length) (ha : PA X (e :: es) t) (hdb : (x == ("__debug__" : Str)) = false)
    (he : starEach (e :: es) X.env = (false, eval e X.env) :: starEach es X.env) (hpl : (backTo pos (starEach es X.env)).any (·.1) = false) :
    PE X (.Call (.Name x q) (e :: es) [] pos) (fun σ H Q => t σ H fun vs H1 => sp vs H1 Q C8.E0) := by
  refine ⟨fun pins s σ H Q I h => wpAny_Call_Name_kw (ld_glob I hg hm (PySem.W.callWith_K (h₀ := X.base) I.ok.mod.kin hk (thn (ha.run pos pins s σ H _ I h) fun us s1 ⟨vs, H1, I1, r, q1⟩ => ⟨I1.kIn, ?_⟩) he hpl) hdb)⟩
  have b := hb s1 us I1.kIn (by rw [List.append_nil, ← r.length]; exact len _ _ _ q1)
  rw [List.append_nil] at b
  have P1 := I1.pin p (List.mem_append_left _ hp)
  have hpin : L2H.PinOk X.stack H1 s1 p := ⟨P1.1, P1.2.1, fun z => (List.mem_cons.mp (I1.stkSub p.1 z)).elim P1.2.2.1 P1.2.2.2.1, P1.2.2.2.2⟩
  refine wpAny_call (codeAny_mono (F X.A X.stack s1 H1 ⟨us, []⟩ us vs Q hr hpin I1.env0 b r q1) fun r s' hq => ?_)
  cases r with
  | error e => exact (show False from hq).elim
  | ok fl => cases fl <;> first | exact I1.after hq | exact False.elim hq
/-! ### the def that calls what it gets and tells of the error -/
theorem Rep.ofFlat {T T' : Tb} {H H' : Hp} {v : V} {d : D} (r : Rep T H v d) (f : d.flat = true) : Rep T' H' v d := by
  cases r <;> first | exact .non | exact .bl _ | exact .int _ | exact .str _ | cases f
theorem flat2 {d : D} {ds : List D} (f : (d :: ds).all D.flat = true) : d.flat = true ∧ ds.all D.flat = true := by
  rw [List.all_cons, Bool.and_eq_true] at f
  exact f
theorem RepA.ofFlat {T T' : Tb} {H H' : Hp} : ∀ {vs : List V} {ds : List D}, RepA T H vs ds → ds.all D.flat = true → RepA T' H' vs ds
  | _, _, .nil, _ => .nil
  | _, _, .cons r t, f => .cons (r.ofFlat (flat2 f).1) (RepA.ofFlat t (flat2 f).2)
/-- what is told back holds no exception: it stands whatever is handled -/
theorem noXA_cons {d : D} {ds : List D} (h : D.noXA (d :: ds) = true) : d.noX = true ∧ D.noXA ds = true := Bool.and_eq_true_iff.mp h
mutual
theorem Rep.unhot {T : Tb} {a : Addr} {c : Str} {dx : Option Addr} {H : Hp} : ∀ {v : V} {d : D}, Rep (T.hot a c dx) H v d → d.noX = true → Rep T H v d
  | _, _, .non, _ => .non
  | _, _, .bl b, _ => .bl b
  | _, _, .int i, _ => .int i
  | _, _, .str s, _ => .str s
  | _, _, .tup h r, f => .tup h (RepA.unhot r f)
  | _, _, .lst h r, f => .lst h (RepA.unhot r f)
  | _, _, .scr h, _ => .scr h
  | _, _, .obj h k n r, f => .obj h k n (RepA.unhot r f)
  | _, _, .exc0 _, f => by cases f
  | _, _, .exc1 _ _ _ _ _, f => by cases f
theorem RepA.unhot {T : Tb} {a : Addr} {c : Str} {dx : Option Addr} {H : Hp} : ∀ {vs : List V} {ds : List D}, RepA (T.hot a c dx) H vs ds → D.noXA ds = true → RepA T H vs ds
  | _, _, .nil, _ => .nil
  | _, _, .cons r t, f => .cons (Rep.unhot r (noXA_cons f).1) (RepA.unhot t (noXA_cons f).2)
end
def TRef (G : Gt) (T : Tb) (S : Sem1) (CS : Addr) : (XK → Hp → VK → Prop) → Hp → VK → Prop := fun tl H Q =>
  tl (fun cls d H' => PySem.W.exmOne T.K cls (.ref CS) = some true ∧ ∀ a, H' a = none → ∃ c C0, c ∈ G.xc ∧ cls = .ref C0 ∧ T.cls c = some C0 ∧ spS (T.hot a c d) S .fz 1 G.hw [.ref a] H' Q C8.E0) H (fun _ H' => Q .non H')
theorem ref_gives {X : Cx} {G : Gt} {T : Tb} {S : Sem1} {st : Stmt} {cn wn rf : Str} {g f CS : Addr} {fd : FuncData} {ps : List Str} (hb : refB st = some (cn, wn)) (hcn : X.mg cn = some (.ref CS)) (hwn : X.mg wn = some (.ref f)) (hk : PySem.W.keepIn X.K (.ref f) = true) (hbd : Binds X.K fd ps [])
    (hps : ps.length = 1) (eK : X.K = T.K) (hot : HotOk G T S X.prog X.w X.mg X.base G.hw f fd ps) (hr : Room (G.hw + 2) X.A) (cdg : Value) (q : Str) : LamX.GivesTo X ["call", "e"] rf (defScope st) g cdg (defBody st) "call" q (TRef G T S CS) := by
  intro f' c' s H Q tl act hc h
  unfold refB at hb
  split at hb
  · rename_i a p1 p2 p3 cn' p4 n wn' p5 n' p6 p7 p8 p9 p10 j p11 p12 eb
    split at hb
    · rename_i hh
      cases hb
      simp only [Bool.and_eq_true, decide_eq_true_eq] at hh
      obtain ⟨⟨⟨⟨⟨⟨⟨⟨rfl, rfl⟩, rfl⟩, v1⟩, v2⟩, g1⟩, g2⟩, k1⟩, k2⟩ := hh
      rw [eb]
      obtain ⟨o1, o2, _⟩ := okN_of k1
      obtain ⟨u1, u2, _⟩ := okN_of k2
      let Y := (cxOf C8.CX0 X.prog X.w X.K X.mg X.base ["call", "e"] rf (defScope st) g cdg X.A X.stack s H C8.E0).nox
      have gl1 : Gl Y cn := glB_of g1
      refine ⟨_, pss_cons (ps_try_as (X := Y) (c := .ref CS) (i := 1)
        (tb := fun W D σ H => ∃ Ech : XK, (∀ cls d σ' H', Ech cls d H' → W cls d σ' H') ∧ σ[0]? = some (some (.ref f')) ∧ H c' = some (LamX.CodeO c' q) ∧ tl Ech H fun _ H1 => D.nx σ H1)
        (ts := fun a cls d D σ H => (∃ σ0 : L2.St, σ = σ0.set 1 (some (.ref a))) ∧ ∃ c C0, c ∈ G.xc ∧ cls = .ref C0 ∧ T.cls c = some C0 ∧ spS (T.hot a c d) S .fz 1 G.hw [.ref a] H D.rt C8.E0)
        rfl rfl (show (["call", "e"] : List Str).Nodup by decide) rfl (locB_of v2) ⟨gl1, o1, .inl hcn⟩ LamX.takes0 (fun W pn xe tk _ => ?_) (fun a oe cls d pn hz hf => ?_)) (pss_one (ps_ret pe_non)), ?_⟩
      · refine ⟨fun pins s' σ H' D I h' => ?_⟩
        obtain ⟨Ech, hW, h1, h2, h3⟩ := h'
        exact (pss_one (ps_expr (pos := p3) (act W pn xe Ech p1 p2 tk hW))).run pins s' σ H' D I ⟨h1, h2, h3⟩
      · refine ⟨fun pins s' σ H' D I h' => ?_⟩
        obtain ⟨⟨σ0, hσ⟩, c, C0, hc, rfl, hcl, hsp⟩ := h'
        have hlen : σ.length = 2 := I.len
        have hslot : σ[1]? = some (some (V.ref a)) := by
          rw [hσ, List.length_set] at hlen
          rw [hσ, List.getElem?_set_self (by omega)]
        have HR := hot (a, oe) c C0 d hc hcl hz hf
        rw [← eK] at HR
        have hrr : L2H.RoomH (G.hw + 1) (Y.suite a ((a, oe) :: pn)).A := ⟨(hr.deeper (envOfC rf (defScope st) s.heap.objs.size g cdg)).dp, (hr.deeper (envOfC rf (defScope st) s.heap.objs.size g cdg)).un⟩
        have pe := pe_hcall (X := Y.suite a ((a, oe) :: pn)) (x := wn) (q := p5) (pos := p7) (p := (a, oe)) List.mem_cons_self HR hrr (glB_of g2) hwn hk hbd (fun vs H Q h => by obtain ⟨_, _, _, _, l, _⟩ := h; exact l)
          (pa_cons (pe_var (i := 1) (pos := p6) rfl (.inl (locB_of v2)) (by decide) (by decide)) pa_nil) u1 rfl rfl
        exact (pss_one (ps_ret (pos := p8) pe)).run pins s' σ H' D I ⟨_, hslot, by rw [hps]; exact hsp⟩
      · refine ⟨_, fun cls d σ' H' e => ?_, rfl, hc, h⟩
        obtain ⟨e1, e2⟩ := e
        exact ⟨true, by rw [show Y.K = T.K from eK]; exact e1, fun _ a na => ⟨⟨σ', rfl⟩, e2 a na⟩, fun z => by cases z⟩
    · cases hb
  · cases hb
theorem DefOk.re {G G' : Gt} {T : Tb} {S : Sem1} {P : Program} {w : World} {mg : Str → Option Value} {base : Heap} {j : Nat} {f : Addr} {fd : FuncData} {ps : List Str} (d : DefOk G T S P w mg base j f fd ps) (e1 : G'.ps = G.ps) (e2 : G'.pl = G.pl) (e3 : G'.lt = G.lt) (e4 : G'.rt = G.rt) : DefOk G' T S P w mg base j f fd ps :=
  ⟨by rw [e1]; exact d.ps_, d.kp, by rw [e2]; exact d.bd, d.len, by
    have := d.ok
    unfold spJ at this ⊢
    rw [e3, e4]
    exact this⟩
theorem FF.lam {G : Gt} {T : Tb} {S : Sem1} {P : Program} {w : World} {mg : Str → Option Value} {base : Heap} {n m : Nat} (ff : FF G T S n P w mg base) (h : m ≤ n) : FF { G with lv := m, la := false } T S m P w mg base where
  fn := fun j x hj hx hg => by
    obtain ⟨f, fd, ps, a1, a2⟩ := ff.fn j x (Nat.lt_of_lt_of_le hj h) hx hg
    exact ⟨f, fd, ps, a1, a2.re rfl rfl rfl rfl⟩
  gl := ff.gl
  bl := ff.bl
  gc := ff.gc
  lc := ff.lc
  me := fun q hq hj => by
    obtain ⟨C, f, fd, ps, a1, a2, a3, a4, a5, a6⟩ := ff.me q hq (Nat.lt_of_lt_of_le hj h)
    exact ⟨C, f, fd, ps, a1, a2, a3, a4, a5.re rfl rfl rfl rfl, a6⟩
  pr := fun q hq hj => by
    obtain ⟨C, p, f, fd, ps, a1, a2, a3, a5, a6⟩ := ff.pr q hq (Nat.lt_of_lt_of_le hj h)
    exact ⟨C, p, f, fd, ps, a1, a2, a3, a5.re rfl rfl rfl rfl, a6⟩
  mkc := fun q hq hj => by
    obtain ⟨C, f, fd, ps, t, a1, a2, a3, a5, a6⟩ := ff.mkc q hq (Nat.lt_of_lt_of_le hj h)
    exact ⟨C, f, fd, ps, t, a1, a2, a3, a5.re rfl rfl rfl rfl, a6⟩
  na := ff.na
  sh := fun q hq hj x hx hg => by
    obtain ⟨f, fd, ps, dvs, dV, a1, a2, a3⟩ := ff.sh q hq (Nat.lt_of_lt_of_le hj h) x hx hg
    exact ⟨f, fd, ps, dvs, dV, a1, a2.re rfl rfl rfl rfl, a3⟩
  shm := fun q hq hj c hc => by
    obtain ⟨C, f, fd, ps, t, dvs, dV, a1, a2, a3, a4, a5⟩ := ff.shm q hq (Nat.lt_of_lt_of_le hj h) c hc
    exact ⟨C, f, fd, ps, t, dvs, dV, a1, a2, a3, a4.re rfl rfl rfl rfl, a5⟩
  xo := ff.xo
  xs := ff.xs
  rfd := fun h => by cases h
section
variable {G : Gt} {C : Ct} {N : List Str} {sc : Scope} {X : Cx} {Γ : List OT}
theorem snd_refd (F : XF G C N sc X) {x : Str} {p lp pos : Pos} {pars : Arguments} {body : Expr} {scope : Scope} {w : Nat} {cs : List Str} {e : IE} {ty : OT} (hcm : G.cm = true) (hla : G.la = true) (hx : x = G.rf) (hg : glB sc x = true) (ok : okN x = true) (hnp : noPar pars = true)
    (hls : LamX.lamSB sc scope = true) (hw : w = G.hw) (hlv : w + 2 ≤ G.lv) (hcs : ∀ c ∈ cs, c ∈ G.xc) (hb : ∀ {C' : Ct} {X' : Cx}, XF { G with lv := G.lv - 2, la := false } C' N scope X' → PE X' body (rE C' Γ ty e)) :
    PE X (.Call (.Name x p) [.Lambda pars body scope lp] [] pos) (rE C Γ .fz (.refd w cs e)) := by
  obtain ⟨g, f, CS, st, gd, fd, ps, cn, wn, m1, Fg, Sg, Bg, rb, m2, xm, m3, kp, Bf, lp1, hot⟩ := F.ff.rfd hla
  obtain ⟨o1, o2, o3⟩ := okN_of ok
  subst hx hw
  have ep : pars = ⟨[], [], none, [], [], none, []⟩ := by
    unfold noPar at hnp
    split at hnp
    · rfl
    · cases hnp
  subst ep
  have L : LamX.LamS X.env.scope scope := LamX.lamS_by (by rw [F.sc]; exact hls)
  have Fg' : FunD X.K G.rf G.rf (defArgs st) (defBody st) (defScope st) [] [] g gd := by rw [F.K]; exact Fg
  have Bg' : Binds X.K gd ["call"] [] := by rw [F.K]; exact Bg
  have hrm := F.rm hcm
  have vis : Vis (defScope st) "call" := Sg.par "call" (by simp) |>.imp id .inl
  refine PE.imp (pe_lamE (k := G.lv - 2) (TT := TRef G C.T C.S CS) (t := fun E σ H Q => ∃ C' : Ct, C'.T = C.T ∧ C'.S = C.S ∧ (∀ cl dx H', EXK C' cl dx H' → E cl dx H') ∧ LamX.Tabs TabC.tl C'.xc.H0 ∧ rE C' Γ ty e σ H Q)
    (F.gl hg) m1 Fg' Bg' Sg rfl vis (fun cdg => ref_gives rb m2 m3 (by rw [F.K]; exact kp) (by rw [F.K]; exact Bf) lp1 F.K hot (hrm.mono hlv) cdg _) (F.lam hla) (hrm.mono (by omega)) L rfl (fun _ _ _ _ _ => rfl) (fun A outer s H E f c' hr2 => ?_) o1 (by decide) (by decide)) fun σ H Q q => ?_
  · refine ⟨fun pins s' σ H' Q I h => ?_⟩
    obtain ⟨⟨T', S', xc', EX'⟩, e1, e2, e3, e4, h⟩ := h
    dsimp only at e1 e2
    subst e1 e2
    refine (hb (C' := ⟨C.T, C.S, xc', EX'⟩) (X' := LamX.lamCx X A outer s H E scope f c') ⟨F.K, fun _ => rfl, F.nd, F.N, rfl, L2H.roomH_of hr2, fun _ => hr2.hd, F.ff.lam (Nat.sub_le _ _), ?_, e4, (fun h => by cases h), fun h => absurd (hcm.symm.trans h) (by decide)⟩).run pins s' σ H' Q I h
    exact passes_call (W := fun cls d _ H => E cls d H) (takes_of (E₁ := fun e' s'' => L2.CX X.prog X.w outer H s E e' s'') rfl rfl rfl rfl) fun cls d σ H h => e3 _ _ _ h
  · obtain ⟨c, fs, env, so, sm, p⟩ := q
    have p : Pst C.EX (fun d => ∀ v H', Ev H H' → RO C.T c .fz fs.flatten H H' v d → Q v H') (refD C.S G.hw cs (ev C.S env e)) := p
    refine ⟨F.tabs sm, fun H1 eN T1 => ?_⟩
    refine ⟨⟨C.T, C.S, ⟨fun a => c.U a ∨ a ∈ fs.flatten, H1, [], none⟩, fun k es => ev C.S env e = .ex k es⟩, rfl, rfl, fun cl dx H' x => ?_, T1, c, fs, env, so.mono eN, ⟨fun h _ _ => h, fun h => ⟨_, h⟩, fun h => h⟩, ?_⟩
    · obtain ⟨k, es, ⟨a0, rfl, hcl, alt⟩, sm', ex⟩ := x
      have ex : ev C.S env e = .ex k es := ex
      have hcl : C.T.cls k = some a0 := hcl
      rw [ex] at p
      unfold refD at p
      dsimp only at p
      split at p
      · rename_i hc
        have hk : k ∈ G.xc := hcs k (List.contains_iff_mem.mp hc)
        obtain ⟨C0, hC0, hex⟩ := xm k hk
        rw [hcl] at hC0
        cases hC0
        have evH : Ev H1 H' := ⟨⟨fun e n => sm'.at_ e n (by simp), sm'.tb⟩, sm'.ta⟩
        refine ⟨hex, fun a na => ⟨k, a0, hk, rfl, hcl, fun b => c.U b ∨ b ∈ fs.flatten, [.exc k es], fun b hb => ?_, .cons ?_ .nil, rfl, evH.ta T1, ?_⟩⟩
        · have so2 := (so.mono eN).mono evH
          exact hb.elim (so2.dm b) (so2.dom b)
        · rcases alt with ⟨rfl, rfl⟩ | ⟨d', fs', rfl, nw, hd, hn, ra, ne, fl⟩
          · exact .exc0 (by simp [Tb.hot])
          · refine .exc1 (by simp [Tb.hot]) (msk_some.mpr ⟨fun u => ?_, hd⟩) hn (ra.ofFlat fl) ne
            have so2 := so.mono eN
            have nw : H1 d' = none := nw.elim id fun z => by cases z
            exact u.elim (fun z => so2.dm d' z nw) (fun z => so2.dom d' z nw)
        · cases es' : C.S G.hw [.exc k es] with
          | ok d =>
            rw [es'] at p
            dsimp only at p
            split at p
            · rename_i hx
              show ∀ v H'' (f : List Addr), Ev H' H'' → f.Nodup → New H' f → Own (C.T.hot a k dx) (msk H'' fun b => (c.U b ∨ b ∈ fs.flatten) ∨ b ∈ f) H'' .fz f v d → Q v H''
              intro v H'' f s _ _ o
              cases o with
              | fz r => exact p v H'' ((eN.trans evH).trans s) (.of_rep ((r.unhot hx).mono (msk_mono (Same.refl _) fun b z => .inl (.inl z))))
            · exact p.elim
          | _ => rw [es'] at p; exact p.elim
      · exact p.elim
    · cases ee : ev C.S env e with
      | ok d =>
        rw [ee] at p
        exact fun v H' s r => p .non H' (eN.trans s) (.of_rep .non)
      | ex k es => exact (rfl : R.ex k es = R.ex k es)
      | bad => rw [ee] at p; exact p.elim
end
end Pv

/-! Pv, part M: expressions of the text compute what the small language says. -/
namespace Pv
open PySem PySem.Spec PyProof.Rows L2
variable [TabC]
omit [TabC] in
theorem and2 {a b : Bool} (h : (a && b) = true) : a = true ∧ b = true := Bool.and_eq_true_iff.mp h
theorem fold_ok {iter : Expr} {env : PySem.Env} (h : noSet iter = true) : ∀ x, foldedSetIterable iter env x = pure x := by
  cases iter <;> first | (intro x; rfl) | cases h
section
variable {G : Gt} {C : Ct} {N : List Str} {sc : Scope} {X : Cx} {Γ : List OT}
theorem sndT_ife {x y z : Expr} {pos : Pos} {c a b : IE} (hc : PT X z (rT C Γ c)) (ha : PT X x (rT C Γ a)) (hb : PT X y (rT C Γ b)) : PT X (.IfExp z x y pos) (rT C Γ (.ife c a b)) := by
  refine ⟨fun pins s σ H Q I h => ?_⟩
  have h' : rT C Γ c σ H fun k H1 => if k = true then rT C Γ a σ H1 Q else rT C Γ b σ H1 Q := by
    obtain ⟨cf, fs, env, so, sm, p⟩ := h
    refine ⟨cf, fs, env, so, sm, (Pst.bind p).imp fun x k => ?_⟩
    cases x with
    | bl y =>
      refine ⟨y, rfl, fun H1 s1 => ?_⟩
      cases y with
      | true =>
        rw [if_pos rfl]
        exact ⟨cf, fs, env, so.mono s1, sm.mono s1, Pst.imp k fun d ⟨b, e, q⟩ => ⟨b, e, fun H2 s2 => q H2 (s1.trans s2)⟩⟩
      | false =>
        rw [if_neg Bool.false_ne_true]
        exact ⟨cf, fs, env, so.mono s1, sm.mono s1, Pst.imp k fun d ⟨b, e, q⟩ => ⟨b, e, fun H2 s2 => q H2 (s1.trans s2)⟩⟩
    | _ => exact k.elim
  refine isTrue_IfExp (thn (hc.run pins s σ H _ I h') fun d s1 ⟨H1, I1, q1⟩ => ?_)
  cases d with
  | true => exact ha.run pins s1 σ H1 Q I1 q1
  | false => exact hb.run pins s1 σ H1 Q I1 q1
end
def M1 (G : Gt) (N : List Str) (sc : Scope) (e : IE) (x : Expr) : Prop := ∀ {C : Ct} {X : Cx} {Γ : List OT}, XF G C N sc X → okE Γ e = true → chkE G N sc e x = true → PE X x (rE C Γ (tyE G Γ e) e) ∧ PT X x (rT C Γ e)
def M2 (G : Gt) (N : List Str) (sc : Scope) (e : IE) (tg x : Expr) : Prop := ∀ {C : Ct} {X : Cx} {Γ : List OT}, XF G C N sc X → okE Γ e = true → chkI G N sc e tg x = true → PI X tg x (rI C Γ e)
/-- each of some arguments, by itself -/
def MA (G : Gt) (N : List Str) (sc : Scope) : IE → List Expr → Prop
  | .cons e a, x :: xs => M1 G N sc e x ∧ MA G N sc a xs
  | _, _ => True
def M3 (G : Gt) (N : List Str) (sc : Scope) (e : IE) (xs : List Expr) : Prop := (∀ {C : Ct} {X : Cx} {Γ : List OT}, XF G C N sc X → okE Γ e = true → chkA G N sc e xs = true → PA X xs (rA C Γ (tyL G Γ e) e)) ∧ MA G N sc e xs
/-- an operation of its own is sound -/
def XopOk : Prop := ∀ {G : Gt} {N : List Str} {sc : Scope} {o : XOp} {x : Expr} {as : IE} {es : List Expr}, matX G N sc o x = some es → M3 G N sc as es → chkA G N sc as es = true → M1 G N sc (.x o as) x
def M4 (G : Gt) (N : List Str) (sc : Scope) (op : PySem.BoolOp) (e : IE) (xs : List Expr) : Prop := ∀ {C : Ct} {X : Cx} {Γ : List OT} {pos : Pos}, XF G C N sc X → okE Γ e = true → chkO G N sc op e xs = true → PE X (.BoolOp op xs pos) (rE C Γ .fz e) ∧ PW X (.BoolOp op xs pos) (rT C Γ e)
section
variable {G : Gt} {C : Ct} {N : List Str} {sc : Scope} {X : Cx} {Γ : List OT}
theorem both {x : Expr} {a : IE} {t : OT} (hv : valB x = true) (h : PE X x (rE C Γ t a)) : PE X x (rE C Γ t a) ∧ PT X x (rT C Γ a) := ⟨h, sndT_val hv h⟩
theorem pe_fz {x : Expr} {a : IE} {t : OT} (h : PE X x (rE C Γ t a)) : PE X x (rE C Γ .fz a) := PE.imp h fun σ H Q q => by
  obtain ⟨c, fs, env, so, sm, p⟩ := q
  exact ⟨c, fs, env, so, sm, p.imp fun d k v H1 s1 r1 => k v H1 s1 (r1.fz so)⟩
theorem pe_one1 {op : PySem.BoolOp} {x : Expr} {pos : Pos} {a : IE} {t : OT} (h : PE X x (rE C Γ t a)) : PE X (.BoolOp op [x] pos) (rE C Γ .fz a) := pe_one (pe_fz h)
theorem bltT_fz {b : Blt} {as : IE} {tn : String} (h : typN b = some tn) : tyE G Γ (.blt b as) = .fz := by
  cases b <;> first | (cases h; done) | rfl
theorem tyE_ix (a i : IE) : (∃ (k : Nat) (ts : List OT), i = .ct (.int (Int.ofNat k)) ∧ tyE G Γ a = .ot ts ∧ tyE G Γ (.ix a i) = (ts[k]?).getD .fz) ∨ tyE G Γ (.ix a i) = .fz := by
  cases i
  case ct d =>
    cases d
    case int n =>
      cases n
      case ofNat k =>
        cases h : tyE G Γ a
        case ot ts => exact .inl ⟨k, ts, rfl, rfl, by simp only [tyE, h]⟩
        all_goals (right; simp only [tyE, h])
      all_goals (right; simp only [tyE])
    all_goals (right; simp only [tyE])
  all_goals (right; simp only [tyE])
theorem cstB_int {i : Int} {c : PySem.Const} (h : cstB (.int i) c = true) : c = .int i := by
  cases c <;> simp [cstB] at h
  rw [h]
theorem tyE_vr {j : Nat} {i : IE} (h : ∀ ts, (Γ[j]?).getD .fz ≠ .ot ts) : tyE G Γ (.ix (.vr j) i) = .fz := by
  rcases tyE_ix (G := G) (Γ := Γ) (.vr j) i with ⟨k, ts, _, e, _⟩ | e
  · exact absurd e (h ts)
  · exact e
theorem snd_all (xok : XopOk) (N : List Str) : (∀ G sc e x, M1 G N sc e x) ∧ (∀ G sc e tg x, M2 G N sc e tg x) ∧ (∀ G sc op e xs, M4 G N sc op e xs) ∧ (∀ G sc e xs, M3 G N sc e xs) := by
  apply chkE.mutual_induct (motive_1 := fun G sc e x => M1 G N sc e x) (motive_2 := fun G sc e tg x => M2 G N sc e tg x) (motive_3 := fun G sc op e xs => M4 G N sc op e xs) (motive_4 := fun G sc e xs => M3 G N sc e xs)
  case case1 =>
    intro G sc i x pos C X Γ F ok h
    simp only [chkE, Bool.and_eq_true, decide_eq_true_eq] at h
    exact both rfl (snd_vr F h.1.1 h.1.2 h.2 ok)
  case case2 =>
    intro G sc d c k pos C X Γ F ok h
    exact both rfl (snd_ct F h)
  case case3 =>
    intro G sc x d y pos C X Γ F ok h
    simp only [chkE, Bool.and_eq_true, decide_eq_true_eq, List.any_eq_true] at h
    obtain ⟨⟨⟨rfl, h1⟩, h2⟩, p, hp, e1, e2⟩ := h
    obtain ⟨px, pd⟩ := p
    have e2 := D.beq_of e2
    dsimp only at e1 e2
    subst e1 e2
    exact both rfl (snd_gl F h1 h2 hp)
  case case4 =>
    intro G sc as es k pos ih C X Γ F ok h
    exact both rfl (snd_tp (ih.1 F ok h))
  case case5 =>
    intro G sc as es pos ih C X Γ F ok h
    exact both rfl (snd_ls (ih.1 F ok h))
  case case6 =>
    intro G sc o a b x op y pos iha ihb C X Γ F ok h
    simp only [chkE, Bool.and_eq_true] at h
    have ok' := and2 ok
    exact both rfl (snd_bin F h.1.1 (iha F ok'.1 h.1.2).1 (ihb F ok'.2 h.2).1)
  case case7 =>
    intro G sc a x pos ih C X Γ F ok h
    exact both rfl (snd_neg F (ih F ok h).1)
  case case8 =>
    intro G sc o a b x op y pos iha ihb C X Γ F ok h
    simp only [chkE, Bool.and_eq_true] at h
    have ok' := and2 ok
    exact ⟨snd_cmp F h.1.1 (iha F ok'.1 h.1.2).1 (ihb F ok'.2 h.2).1, sndT_cmp F h.1.1 (iha F ok'.1 h.1.2).1 (ihb F ok'.2 h.2).1⟩
  case case9 =>
    intro G sc o p a b c x op op' y z pos iha ihb ihc C X Γ F ok h
    simp only [chkE, Bool.and_eq_true] at h
    have ok' := and2 ok
    have ok2 := and2 ok'.1
    exact snd_cmp2 F h.1.1.1.1 h.1.1.1.2 (iha F ok2.1 h.1.1.2).1 (ihb F ok2.2 h.1.2).1 (ihc F ok'.2 h.2).1
  case case10 =>
    intro G sc a x k p q ih C X Γ F ok h
    exact snd_isN F (ih F ok h).1
  case case11 =>
    intro G sc a x k p q ih C X Γ F ok h
    exact snd_ntN F (ih F ok h).1
  case case12 =>
    intro G sc a b x y pos iha ihb C X Γ F ok h
    simp only [chkE, Bool.and_eq_true] at h
    have ok' := and2 ok
    have h1 := iha F ok'.1 h.1
    have h2 := ihb F ok'.2 h.2
    exact ⟨snd_conj (op := .And) h1.1 (pe_one1 h2.1), (sndW_conj (op := .And) h1.2 (sndW_one h2.2)).pt⟩
  case case13 =>
    intro G sc a b x y z r pos iha ihb C X Γ F ok h
    simp only [chkE, Bool.and_eq_true] at h
    have ok' := and2 ok
    have h1 := iha F ok'.1 h.1
    have h2 := ihb (pos := pos) F ok'.2 h.2
    exact ⟨snd_conj (op := .And) h1.1 h2.1, (sndW_conj (op := .And) h1.2 h2.2).pt⟩
  case case14 =>
    intro G sc a b x y pos iha ihb C X Γ F ok h
    simp only [chkE, Bool.and_eq_true] at h
    have ok' := and2 ok
    have h1 := iha F ok'.1 h.1
    have h2 := ihb F ok'.2 h.2
    exact ⟨snd_conj (op := .Or) h1.1 (pe_one1 h2.1), (sndW_conj (op := .Or) h1.2 (sndW_one h2.2)).pt⟩
  case case15 =>
    intro G sc a b x y z r pos iha ihb C X Γ F ok h
    simp only [chkE, Bool.and_eq_true] at h
    have ok' := and2 ok
    have h1 := iha F ok'.1 h.1
    have h2 := ihb (pos := pos) F ok'.2 h.2
    exact ⟨snd_conj (op := .Or) h1.1 h2.1, (sndW_conj (op := .Or) h1.2 h2.2).pt⟩
  case case16 =>
    intro G sc a x pos ih C X Γ F ok h
    have h1 := ih F ok h
    exact ⟨snd_not h1.1, sndT_not h1.2⟩
  case case17 =>
    intro G sc c a b z x y pos ihc iha ihb C X Γ F ok h
    simp only [chkE, Bool.and_eq_true] at h
    have ok' := and2 ok
    have ok2 := and2 ok'.1
    have h1 := ihc F ok2.1 h.1.1
    have h2 := iha F ok2.2 h.1.2
    have h3 := ihb F ok'.2 h.2
    exact ⟨snd_ife h1.2 h2.1 h3.1, sndT_ife h1.2 h2.2 h3.2⟩
  case case18 =>
    intro G sc j as x pos es p2 ih C X Γ F ok h
    simp only [chkE, Bool.and_eq_true, decide_eq_true_eq] at h
    obtain ⟨⟨⟨⟨⟨⟨⟨⟨hpl, h0⟩, hlt⟩, h1⟩, h2⟩, hgs⟩, h3⟩, h4⟩, h5⟩ := h
    have ha := ih.1 F ok h5
    have hp := chkA_plain h5
    cases es with
    | nil =>
      cases as with
      | nil => exact both rfl (snd_call0 F h0 hpl h1 h2 (inB_of hgs) (ltN_of hlt) h3 h4)
      | _ => simp [chkA] at h5
    | cons e es => exact both rfl (snd_call F h0 hpl h1 h2 (inB_of hgs) (ltN_of hlt) h3 h4 hp ha)
  case case19 =>
    intro G sc as x pos e es p2 ih C X Γ F ok h
    simp only [chkE, Bool.and_eq_true, decide_eq_true_eq] at h
    obtain ⟨⟨⟨h1, rfl⟩, h3⟩, h5⟩ := h
    exact both rfl (snd_gcd F h1 h3 (chkA_plain h5) (ih.1 F ok h5))
  case case20 =>
    intro G sc b a x pos e ty p1 p2 hb tn htn ih C X Γ F ok h
    rw [chkE, htn] at h
    case x_3 => exact hb
    simp only [Bool.and_eq_true, decide_eq_true_eq] at h
    obtain ⟨⟨⟨⟨⟨⟨⟨rfl, h1⟩, h2⟩, rfl⟩, h3⟩, h4⟩, h6⟩, h5⟩ := h
    have ok' : okE Γ a = true := by
      cases b <;> first | (cases htn; done) | exact (and2 ok).1
    rw [bltT_fz htn]
    exact both rfl (snd_isi F htn h1 (inB_of h2) h3 (inB_of h4) h6 (ih F ok' h5).1)
  case case21 =>
    intro G sc b a x pos e ty p1 p2 hb htn C X Γ F ok h
    rw [chkE, htn] at h
    · cases h
    · exact hb
  case case22 =>
    intro G sc b as x pos e es p1 hb hx y hy ih C X Γ F ok h
    rw [chkE, hy] at h
    · simp only [Bool.and_eq_true, decide_eq_true_eq] at h
      obtain ⟨⟨⟨⟨rfl, h1⟩, h2⟩, hcm⟩, h5⟩ := h
      rw [bltT_of]
      by_cases ok' : okE Γ as = true
      · exact both rfl (snd_blt F hy rfl h1 (inB_of h2) hcm (chkA_plain h5) (ih.1 F ok' h5))
      · have hl : ∃ i, b = .len ∧ as = .cons (.vr i) .nil := by
          unfold okE at ok
          split at ok
          all_goals first
            | (rename_i e; injection e; rename_i e1 e2; exact ⟨_, e1, e2⟩)
            | (rename_i e; cases e; done)
            | (rename_i e _; injection e with e1 e2; subst e1 e2; exact absurd ok ok')
            | (rename_i _ e; injection e with e1 e2; subst e1 e2; exact absurd ok ok')
        obtain ⟨i, rfl, rfl⟩ := hl
        cases hy
        cases es with
        | cons e2 es => simp [chkA] at h5
        | nil =>
          simp only [chkA, Bool.and_eq_true] at h5
          obtain ⟨⟨q1, q2⟩, _⟩ := h5
          unfold chkE at q2
          split at q2
          · rename_i e1
            injection e1 with e1
            subst e1
            simp only [Bool.and_eq_true, decide_eq_true_eq] at q2
            exact both rfl (snd_lenV F q2.1.1 q2.1.2 q2.2 h1 (inB_of h2))
          all_goals first | (rename_i e _; cases e; done) | (rename_i e; cases e; done) | (cases q2; done)
    · exact hb
    · exact hx
  case case23 =>
    intro G sc b as x pos es e p1 hb hx hy C X Γ F ok h
    rw [chkE, hy] at h
    · cases h
    · exact hb
    · exact hx
  case case24 =>
    intro G sc a i x y pos iha ihi C X Γ F ok h
    simp only [chkE, Bool.and_eq_true] at h
    obtain ⟨⟨h1, h2⟩, h3⟩ := h
    refine both rfl ?_
    by_cases hv : ∃ j, a = .vr j
    · obtain ⟨j, rfl⟩ := hv
      rw [okE] at ok
      obtain ⟨ok1, ok2⟩ := and2 ok
      have hx : ∃ x' p', x = .Name x' p' ∧ N[j]? = some x' ∧ visB sc x' = true ∧ okN x' = true := by
        unfold chkE at h2
        split at h2
        · rename_i e
          injection e with e
          subst e
          simp only [Bool.and_eq_true, decide_eq_true_eq] at h2
          exact ⟨_, _, rfl, h2.1.1, h2.1.2, h2.2⟩
        all_goals first | (rename_i e _; cases e; done) | (rename_i e; cases e; done) | (cases h2; done)
      split at ok1
      · rename_i e
        have := iha F (by rw [okE, e]; rfl) h2
        rw [tyE_vr (by rw [e]; exact fun _ h => by cases h)]
        exact snd_ix F h1 this.1 (ihi F ok2 h3).1
      · rename_i e
        obtain ⟨x', p', rfl, q1, q2, q3⟩ := hx
        rw [tyE_vr (by rw [e]; exact fun _ h => by cases h)]
        exact snd_ixV F q1 q2 q3 e h1 (ihi F ok2 h3).1
      · cases ok1
    · have ok' : okE Γ a = true ∧ okE Γ i = true := by
        rw [okE] at ok
        · exact and2 ok
        · exact fun j e => hv ⟨j, e⟩
      rcases tyE_ix (G := G) (Γ := Γ) a i with ⟨k, ts, rfl, e1, e2⟩ | e
      · have hy : ∃ j p', y = .Constant (.int (k : Int)) j p' := by
          unfold chkE at h3
          split at h3
          all_goals first
            | (rename_i e; injection e with e; subst e; rw [cstB_int h3]; exact ⟨_, _, rfl⟩)
            | (rename_i e _; cases e; done) | (rename_i e; cases e; done) | (cases h3; done)
        obtain ⟨j, p', rfl⟩ := hy
        rw [e2]
        have := (iha F ok'.1 h2).1
        rw [e1] at this
        exact snd_ixO F this
      · rw [e]
        exact snd_ix F h1 (iha F ok'.1 h2).1 (ihi F ok'.2 h3).1
  case case25 =>
    intro G sc a lo hi x l h pos p2 iha ihl ihh C X Γ F ok hc
    simp only [chkE, Bool.and_eq_true] at hc
    have ok' := and2 ok
    have ok2 := and2 ok'.1
    exact both rfl (snd_sl F (iha F ok2.1 hc.1.1).1 (ihl F ok2.2 hc.1.2).1 (ihh F ok'.2 hc.2).1)
  case case26 =>
    intro G sc a lo x l pos p2 iha ihl C X Γ F ok hc
    simp only [chkE, Bool.and_eq_true] at hc
    have ok' := and2 ok
    exact both rfl (snd_slF F (iha F ok'.1 hc.1).1 (ihl F ok'.2 hc.2).1)
  case case27 =>
    intro G sc a hi x h pos p2 iha ihh C X Γ F ok hc
    simp only [chkE, Bool.and_eq_true] at hc
    have ok' := and2 ok
    exact both rfl (snd_slT F (iha F ok'.1 hc.1).1 (ihh F ok'.2 hc.2).1)
  case case28 =>
    intro G sc e t it c x tg iter ifs scope pos ihi ihe ihc C X Γ F ok h
    rw [chkE.eq_def] at h
    simp only [Bool.and_eq_true] at h
    obtain ⟨⟨⟨⟨⟨⟨h0, h1⟩, h2⟩, h3⟩, h4⟩, h5⟩, h6⟩ := h
    have hcm := F.calm h0
    have ok1 := and2 ok
    have ok2 := and2 ok1.1
    have ok3 := and2 ok2.1
    refine both rfl ?_
    have hfn : ∀ (s : Shared) (H : Hp) (Cc : Addr) (cl : List (Str × Addr)) (fp : List Addr) (x : Str), (scope.names.lookup x == some .cell) = true → (X.blk s H scope (compEnvC scope cl Cc X.env) fp).fn x = true := fun s H Cc cl fp x hx => hx
    by_cases hc : c = .nil
    · subst hc
      have : ifs = [] := by
        split at h6
        · rfl
        · simp at h6
        · cases h6
      subst this
      exact (snd_lcB F (fold_ok h2) (ihi F ok3.1 h3) h1 ok3.2 (fun s H Cc cl fp => sndG (X := X.blk s H scope (compEnvC scope cl Cc X.env) fp) hcm (F.blk h0 s H scope Cc cl fp) (hfn s H Cc cl fp) t tg h4) (fun s H Cc cl fp => pts_nil) (fun s H Cc cl fp => (ihe (F.blk h0 s H scope Cc cl fp) ok2.2 h5).1) (.inl ⟨rfl, rfl⟩)).pe hcm F
    · have : ∃ i, ifs = [i] ∧ chkE G N (relS scope sc) c i = true := by
        split at h6
        · split at h6
          · exact absurd rfl hc
          · cases h6
        · rename_i i
          split at h6
          · cases h6
          · exact ⟨i, rfl, h6⟩
        · cases h6
      obtain ⟨i, rfl, h7⟩ := this
      exact (snd_lcB F (fold_ok h2) (ihi F ok3.1 h3) h1 ok3.2 (fun s H Cc cl fp => sndG (X := X.blk s H scope (compEnvC scope cl Cc X.env) fp) hcm (F.blk h0 s H scope Cc cl fp) (hfn s H Cc cl fp) t tg h4) (fun s H Cc cl fp => pts_one (ihc i (F.blk h0 s H scope Cc cl fp) ok1.2 h7).2) (fun s H Cc cl fp => (ihe (F.blk h0 s H scope Cc cl fp) ok2.2 h5).1) (.inr ⟨hc, rfl⟩)).pe hcm F
  case case29 =>
    intro G sc o as x es hm ih
    unfold M1
    intro C X Γ F ok h
    have h' : chkA G N sc as es = true := by
      have q : (match matX G N sc o x with | some es => chkA G N sc as es | none => false) = true := h
      rw [hm] at q
      exact q
    exact xok hm ih h' F ok h
  case case30 =>
    intro G sc o as x hm C X Γ F ok h
    have q : (match matX G N sc o x with | some es => chkA G N sc as es | none => false) = true := h
    rw [hm] at q
    cases q
  case case31 =>
    intro G sc w cs e x p ps body scope lp pos ih C X Γ F ok h
    simp only [chkE, Bool.and_eq_true, decide_eq_true_eq] at h
    obtain ⟨⟨⟨⟨⟨⟨⟨⟨⟨⟨h0, h1⟩, h2⟩, h3⟩, h4⟩, h5⟩, h6⟩, h7⟩, h8⟩, h9⟩, h10⟩ := h
    exact both rfl (snd_refd F h0 h1 h2 h3 h4 h5 h6 h7 h8 (fun c hc => inB_of (List.all_eq_true.mp h9 c hc)) fun F' => (ih F' ok h10).1)
  case case32 =>
    intro t sc x
    unfold M1
    intros
    rename_i h
    rw [chkE] at h
    · cases h
    all_goals assumption
  case case33 =>
    intro G sc a x x1 pos e p1 ih C X Γ F ok h
    simp only [chkI, Bool.and_eq_true, decide_eq_true_eq] at h
    obtain ⟨⟨⟨⟨rfl, h1⟩, h2⟩, h3⟩, h4⟩ := h
    exact sndI_rng1 F h1 (inB_of h2) h3 (ih F (and2 ok).1 h4).1
  case case34 =>
    intro G sc a b x x1 pos e f p1 ih ih2 C X Γ F ok h
    simp only [chkI, Bool.and_eq_true, decide_eq_true_eq] at h
    obtain ⟨⟨⟨⟨⟨⟨rfl, h1⟩, h2⟩, h3⟩, h4⟩, h5⟩, h6⟩ := h
    exact sndI_rng2 F h1 (inB_of h2) h3 h4 (ih F (and2 ok).1 h5).1 (ih2 F (and2 (and2 ok).2).1 h6).1
  case case35 =>
    intro G sc a b elts k pos x1 p1 e f p2 ih ih2 C X Γ F ok h
    simp only [chkI, Bool.and_eq_true, decide_eq_true_eq] at h
    obtain ⟨⟨⟨⟨⟨⟨rfl, h1⟩, h2⟩, h3⟩, h4⟩, h5⟩, h6⟩ := h
    exact sndI_zip F h1 (inB_of h2) h3 h4 (ih F (and2 ok).1 h5).1 (ih2 F (and2 (and2 ok).2).1 h6).1
  case case36 =>
    intro G sc a elts k pos x1 p1 e p2 ih C X Γ F ok h
    simp only [chkI, Bool.and_eq_true, decide_eq_true_eq] at h
    obtain ⟨⟨⟨⟨rfl, h1⟩, h2⟩, h3⟩, h4⟩ := h
    exact sndI_enu F h1 (inB_of h2) h3 (ih F (and2 ok).1 h4).1
  case case37 =>
    intro G sc a x x1 pos e p1 ih C X Γ F ok h
    simp only [chkI, Bool.and_eq_true, decide_eq_true_eq] at h
    obtain ⟨⟨⟨⟨rfl, h1⟩, h2⟩, h3⟩, h4⟩ := h
    exact sndI_rev F h1 (inB_of h2) h3 (ih F (and2 ok).1 h4).1
  case case38 =>
    intro G sc a x e ih C X Γ F ok h
    simp only [chkI, Bool.and_eq_true] at h
    exact sndI_val F (ih F (and2 ok).1 h.2).1
  case case39 =>
    intro t sc x y
    unfold M2
    intros
    rename_i h
    rw [chkI] at h
    · cases h
    all_goals assumption
  case case40 =>
    intro G sc op a b y z iha ihb C X Γ pos F ok h
    simp only [chkO, Bool.and_eq_true] at h
    obtain ⟨⟨h0, h1⟩, h2⟩ := h
    have ok' := and2 ok
    have h1 := iha F ok'.1 h1
    have h2 := ihb F ok'.2 h2
    cases op with
    | And => exact ⟨snd_conj (op := .And) h1.1 (pe_one1 h2.1), sndW_conj (op := .And) h1.2 (sndW_one h2.2)⟩
    | Or => cases h0
  case case41 =>
    intro G sc op a b y z iha ihb C X Γ pos F ok h
    simp only [chkO, Bool.and_eq_true] at h
    obtain ⟨⟨h0, h1⟩, h2⟩ := h
    have ok' := and2 ok
    have h1 := iha F ok'.1 h1
    have h2 := ihb F ok'.2 h2
    cases op with
    | And => cases h0
    | Or => exact ⟨snd_conj (op := .Or) h1.1 (pe_one1 h2.1), sndW_conj (op := .Or) h1.2 (sndW_one h2.2)⟩
  case case42 =>
    intro G sc op a b y z w r iha ihb C X Γ pos F ok h
    simp only [chkO, Bool.and_eq_true] at h
    obtain ⟨⟨h0, h1⟩, h2⟩ := h
    have ok' := and2 ok
    have h1 := iha F ok'.1 h1
    have h2 := ihb (pos := pos) F ok'.2 h2
    cases op with
    | And => exact ⟨snd_conj (op := .And) h1.1 h2.1, sndW_conj (op := .And) h1.2 h2.2⟩
    | Or => cases h0
  case case43 =>
    intro G sc op a b y z w r iha ihb C X Γ pos F ok h
    simp only [chkO, Bool.and_eq_true] at h
    obtain ⟨⟨h0, h1⟩, h2⟩ := h
    have ok' := and2 ok
    have h1 := iha F ok'.1 h1
    have h2 := ihb (pos := pos) F ok'.2 h2
    cases op with
    | And => cases h0
    | Or => exact ⟨snd_conj (op := .Or) h1.1 h2.1, sndW_conj (op := .Or) h1.2 h2.2⟩
  case case44 =>
    intro t sc op x
    unfold M4
    intros
    rename_i h
    rw [chkO] at h
    · cases h
    all_goals assumption
  case case45 =>
    intro G sc
    exact ⟨fun F ok h => sndA_nil, trivial⟩
  case case46 =>
    intro G sc e a x xs ih iha
    refine ⟨fun {C X Γ} F ok h => ?_, ih, iha.2⟩
    simp only [chkA, Bool.and_eq_true] at h
    exact sndA_cons h.1.1 (ih F (and2 ok).1 h.1.2).1 (iha.1 F (and2 ok).2 h.2)
  case case47 =>
    intro g t sc x h1 h2
    unfold M3
    refine ⟨fun {C X Γ} F ok h => ?_, ?_⟩
    · rw [chkA] at h
      · cases h
      all_goals assumption
    · unfold MA
      split
      · exact (h2 _ _ _ _ rfl rfl).elim
      · trivial
theorem snd_e (xok : XopOk) (F : XF G C N sc X) {e : IE} {x : Expr} (ok : okE Γ e = true) (h : chkE G N sc e x = true) : PE X x (rE C Γ (tyE G Γ e) e) ∧ PT X x (rT C Γ e) := (snd_all xok N).1 G sc e x F ok h
theorem snd_i (xok : XopOk) (F : XF G C N sc X) {e : IE} {tg x : Expr} (ok : okE Γ e = true) (h : chkI G N sc e tg x = true) : PI X tg x (rI C Γ e) := (snd_all xok N).2.1 G sc e tg x F ok h
theorem snd_lc (xok : XopOk) (F : XF G C N sc X) {e it c : IE} {t : Tg} {x tg iter : Expr} {ifs : List Expr} {scope : Scope} {pos : Pos} (ok : okE Γ (.lc e t it c) = true) (h : chkE G N sc (.lc e t it c) (.ListComp x [⟨tg, iter, ifs, 0⟩] scope pos) = true) : LcB X x tg iter ifs scope (rE C Γ (.ol .fz) (.lc e t it c)) := by
    rw [chkE.eq_def] at h
    simp only [Bool.and_eq_true] at h
    obtain ⟨⟨⟨⟨⟨⟨h0, h1⟩, h2⟩, h3⟩, h4⟩, h5⟩, h6⟩ := h
    have hcm := F.calm h0
    have ok1 := and2 ok
    have ok2 := and2 ok1.1
    have ok3 := and2 ok2.1
    have hfn : ∀ (s : Shared) (H : Hp) (Cc : Addr) (cl : List (Str × Addr)) (fp : List Addr) (x : Str), (scope.names.lookup x == some .cell) = true → (X.blk s H scope (compEnvC scope cl Cc X.env) fp).fn x = true := fun s H Cc cl fp x hx => hx
    by_cases hc : c = .nil
    · subst hc
      have : ifs = [] := by
        split at h6
        · rfl
        · simp at h6
        · cases h6
      subst this
      exact (snd_lcB F (fold_ok h2) (snd_i xok F ok3.1 h3) h1 ok3.2 (fun s H Cc cl fp => sndG (X := X.blk s H scope (compEnvC scope cl Cc X.env) fp) hcm (F.blk h0 s H scope Cc cl fp) (hfn s H Cc cl fp) t tg h4) (fun s H Cc cl fp => pts_nil) (fun s H Cc cl fp => (snd_e xok (F.blk h0 s H scope Cc cl fp) ok2.2 h5).1) (.inl ⟨rfl, rfl⟩))
    · have : ∃ i, ifs = [i] ∧ chkE G N (relS scope sc) c i = true := by
        split at h6
        · split at h6
          · exact absurd rfl hc
          · cases h6
        · rename_i i
          split at h6
          · cases h6
          · exact ⟨i, rfl, h6⟩
        · cases h6
      obtain ⟨i, rfl, h7⟩ := this
      exact (snd_lcB F (fold_ok h2) (snd_i xok F ok3.1 h3) h1 ok3.2 (fun s H Cc cl fp => sndG (X := X.blk s H scope (compEnvC scope cl Cc X.env) fp) hcm (F.blk h0 s H scope Cc cl fp) (hfn s H Cc cl fp) t tg h4) (fun s H Cc cl fp => pts_one (snd_e xok (F.blk h0 s H scope Cc cl fp) ok1.2 h7).2) (fun s H Cc cl fp => (snd_e xok (F.blk h0 s H scope Cc cl fp) ok2.2 h5).1) (.inr ⟨hc, rfl⟩))
end
end Pv

/-! Pv, part N: statements: how a frame's holdings flow, the look, the readings. -/
namespace Pv
open PySem PySem.Spec PyProof.Rows L2
variable [TabC]
mutual
def OT.beq : OT → OT → Bool
  | .fz, .fz => true
  | .ol a, .ol b => OT.beq a b
  | .ot a, .ot b => OT.beqA a b
  | .oi m a, .oi n b => decide (m = n) && OT.beqA a b
  | _, _ => false
def OT.beqA : List OT → List OT → Bool
  | [], [] => true
  | a :: as, b :: bs => OT.beq a b && OT.beqA as bs
  | _, _ => false
end
mutual
theorem OT.beq_of : ∀ {a b : OT}, OT.beq a b = true → a = b
  | .fz, b, h => by cases b <;> simp [OT.beq] at h <;> rfl
  | .ol a, b, h => by cases b <;> simp [OT.beq] at h; rw [OT.beq_of h]
  | .ot a, b, h => by cases b <;> simp [OT.beq] at h; rw [OT.beqA_of h]
  | .oi m a, b, h => by cases b <;> simp [OT.beq] at h; rw [h.1, OT.beqA_of h.2]
theorem OT.beqA_of : ∀ {a b : List OT}, OT.beqA a b = true → a = b
  | [], b, h => by cases b <;> simp [OT.beqA] at h; rfl
  | a :: as, b, h => by
    cases b with
    | nil => simp [OT.beqA] at h
    | cons b bs =>
      simp only [OT.beqA, Bool.and_eq_true] at h
      rw [OT.beq_of h.1, OT.beqA_of h.2]
end
theorem OT.isFz_of {t : OT} (h : t.isFz = true) : t = .fz := by
  cases t <;> first | rfl | cases h

/-! ### the flow -/
def ends : IS → Bool
  | .seq a b => ends a && ends b
  | .ite _ a b => ends a || ends b
  | .ret _ | .retN | .brk | .cnt | .never => false
  | .x (.rse _) _ => false
  | _ => true
def outX (Γ : List OT) : SOp → List OT
  | .fst _ i f t => (match (Γ[i]?).getD .fz with | .oi ns ts => Γ.set i (.oi (putN f ns) (putD f t ns ts)) | _ => Γ)
  | _ => Γ
def out (Γ : List OT) : IS → List OT
  | .seq a b => out (out Γ a) b
  | .frz i => Γ.set i .fz
  | .set i t _ => Γ.set i t
  | .asg t _ => setAll .fz Γ t.own
  | .ite _ a b => if ends a then out Γ a else out Γ b
  | .x o _ => outX Γ o
  | _ => Γ
theorem rse_nx {env env' : Env} {c : Str} {ds : List D} : sopD env (.rse c) ds ≠ .nx env' := fun h => by
  cases ds with
  | nil => cases h
  | cons d ds =>
    cases ds with
    | nil => cases d <;> cases h
    | cons _ _ => cases d <;> cases h
theorem ends_nx {S : Sem1} : ∀ {st : IS} {env env' : Env}, ends st = false → exec S env st ≠ .nx env'
  | .seq a b, env, env', h, e => by
    simp only [exec] at e
    cases ea : exec S env a with
    | nx e1 =>
      rw [ea] at e
      cases h1 : ends a with
      | false => exact ends_nx h1 ea
      | true =>
        rw [ends, h1, Bool.true_and] at h
        exact ends_nx h e
    | _ => rw [ea] at e; cases e
  | .ite c a b, env, env', h, e => by
    simp only [ends, Bool.or_eq_false_iff] at h
    simp only [exec] at e
    cases ec : ev S env c with
    | ok d =>
      rw [ec] at e
      cases d with
      | bl k =>
        cases k with
        | true => exact ends_nx h.1 e
        | false => exact ends_nx h.2 e
      | _ => cases e
    | _ => rw [ec] at e; cases e
  | .ret e1, env, env', h, e => by
    simp only [exec] at e
    cases ec : ev S env e1 <;> rw [ec] at e <;> cases e
  | .retN, env, env', h, e => by simp only [exec] at e; cases e
  | .brk, env, env', h, e => by simp only [exec] at e; cases e
  | .cnt, env, env', h, e => by simp only [exec] at e; cases e
  | .never, env, env', h, e => by simp only [exec] at e; cases e
  | .x o as, env, env', h, e => by
    cases o with
    | rse c =>
      simp only [exec] at e
      cases ec : ev S env as with
      | ok d =>
        rw [ec] at e
        cases d with
        | tup ds =>
          rw [argF_ok] at e
          exact absurd e rse_nx
        | _ => cases e
      | _ => rw [ec] at e; cases e
    | _ => simp [ends] at h

/-- how a def's result is held; what is lent to it, as it goes -/
structure Rt where
  ty : OT
  lt : Option OT := none
/-! ### the look -/
def mvA (G : Gt) (Γ : List OT) : List Nat → IE → List OT → Bool
  | _, .nil, [] => true
  | us, .cons e a, t :: ts => (match e, t with
    | .vr i, .fz => ((Γ[i]?).getD .fz).isFz && mvA G Γ us a ts
    | .vr i, t => OT.beq ((Γ[i]?).getD .fz) t && !us.contains i && mvA G Γ (i :: us) a ts
    | e, t => okE Γ e && (t.isFz || OT.beq (tyE G Γ e) t) && mvA G Γ us a ts)
  | _, _, _ => false
def fitE (G : Gt) (Γ : List OT) (t : OT) (e : IE) : Bool := okE Γ e && (t.isFz || OT.beq (tyE G Γ e) t)
def retB (G : Gt) (Γ : List OT) : OT → IE → Bool
  | t, .vr i => OT.beq ((Γ[i]?).getD .fz) t
  | .ot ts, .tp as => mvA G Γ [] as ts
  | t, e => fitE G Γ t e
def noLc : Expr → Bool
  | .ListComp .. | .SetComp .. | .DictComp .. => false
  | _ => true
def noTup : Expr → Bool
  | .Tuple .. => false
  | _ => true
/-- may the value be stored under this name at once -/
def swB (sc : Scope) (x : Str) (p : Pos) : Expr → Option Bool
  | .ListComp _ _ scope pos => if locB sc x then (if p.line == pos.line && !(scope.names.any fun (n, k) => n == x && (k == .local || k == .cell)) then some true else none) else some false
  | e => if noLc e then some false else none
def stoB (sc : Scope) (fb : Str → Bool) (x : Str) : Bool := match sc.names.lookup x with | some .local => true | some .cell => fb x | _ => false
/-- what is given back, the lent one as it is to go -/
def retX (G : Gt) (Γ : List OT) (rt : Rt) (e : IE) : Bool := match rt.lt with
  | none => retB G Γ rt.ty e
  | some t => rt.ty.isFz && okE Γ e && OT.beq ((Γ[0]?).getD .fz) t && t.isOi
def oiB (t : OT) : Bool := match t with | .oi ns ts => ns.length == ts.length | _ => false
/-- is the statement such an operation, and of what -/
def matS (G : Gt) (N : List Str) (sc : Scope) (Γ : List OT) : SOp → IE → Stmt → Option (List Expr)
  | .fst c i f t, .cons e .nil, .Assign [.Attribute (.Name x _) g _] v _ => if decide (f = g) && decide (N[i]? = some x) && visB sc x && okN x && oiB ((Γ[i]?).getD .fz) && pairB G.na c f && fitE G Γ t e && noLc v && plainX v then some [v] else none
  | .rse c, .cons (.ct (.str s)) .nil, .Raise (some (.Call (.Name x _) [.Constant (.str m) j p] [] _)) none _ => if decide (c = x) && glB sc x && okN x && inB c G.xo && G.cm && decide (s = m) then some [.Constant (.str m) j p] else none
  | .pop i, .nil, .Expr (.Call (.Attribute (.Name x _) g ap) [] [] cp) _ => if decide (g = "pop") && decide (N[i]? = some x) && visB sc x && okN x && OT.beq ((Γ[i]?).getD .fz) (.ol .fz) && (ap.endLine == cp.line) then some [] else none
  | _, _, _ => none
mutual
def chkS (G : Gt) (N : List Str) (sc : Scope) (fb : Str → Bool) (rt : Rt) (Γl : List OT) : List OT → IS → Stmt → Bool
  | Γ, .set i t e, .Assign [.Name x p] v _ => decide (N[i]? = some x) && stoB sc fb x && (!(i == 0) || !t.isOi) && fitE G Γ t e && chkE G N sc e v && (swB sc x p v).isSome && (G.cm || noLc v)
  | Γ, .asg t e, .Assign [.Tuple es k p] v _ => G.cm && chkG N sc fb t (.Tuple es k p) && okE Γ e && chkE G N sc e v && noLc v && noTup v
  | Γ, .sub i k e, .Assign [.Subscript (.Name x _) y _] v _ => decide (N[i]? = some x) && visB sc x && okN x && OT.beq ((Γ[i]?).getD .fz) (.ol .fz) && noSl y && okE Γ k && okE Γ e && chkE G N sc k y && chkE G N sc e v
  | Γ, .app i e, .Expr (.Call (.Attribute (.Name x _) at' ap) [v] [] cp) _ => decide (at' = "append") && decide (N[i]? = some x) && visB sc x && okN x && OT.beq ((Γ[i]?).getD .fz) (.ol .fz) && (ap.endLine == cp.line) && plainX v && okE Γ e && chkE G N sc e v
  | _, .pass, .Pass _ => true
  | _, .pass, .Expr (.Constant (.str _) _ _) _ => true
  | Γ, .ret e, .Return (some v) _ => retX G Γ rt e && chkE G N sc e v
  | Γ, .retN, .Return none _ => rt.ty.isFz && (match rt.lt with | none => true | some t => OT.beq ((Γ[0]?).getD .fz) t && t.isOi)
  | Γ, .brk, .Break _ => OT.beqA Γ Γl
  | Γ, .cnt, .Continue _ => OT.beqA Γ Γl
  | Γ, .ite c a b, .If z xs ys _ => okE Γ c && chkE G N sc c z && chkB G N sc fb rt Γl Γ a xs && chkB G N sc fb rt Γl Γ b ys && (!ends a || !ends b || OT.beqA (out Γ a) (out Γ b))
  | Γ, .for t it b, .For tg iter xs [] _ => G.cm && okE Γ it && noSet iter && chkI G N sc it tg iter && chkG N sc fb t tg && (t.own.all fun i => ((Γ[i]?).getD .fz).isFz) && chkB G N sc fb rt Γ Γ b xs && (!ends b || OT.beqA (out Γ b) Γ)
  | Γ, .whl c b, .While z xs [] _ => okE Γ c && chkE G N sc c z && chkB G N sc fb rt Γ Γ b xs && (!ends b || OT.beqA (out Γ b) Γ)
  | Γ, .expr e, .Expr v _ => noLc v && okE Γ e && chkE G N sc e v
  | _, .never, _ => true
  | Γ, .x o as, st => (match matS G N sc Γ o as st with | some es => okE Γ as && chkA G N sc as es | none => false)
  | _, _, _ => false
def chkB (G : Gt) (N : List Str) (sc : Scope) (fb : Str → Bool) (rt : Rt) (Γl : List OT) : List OT → IS → List Stmt → Bool
  | _, .skip, [] => true
  | Γ, .seq (.frz i) b, xs => chkB G N sc fb rt Γl (Γ.set i .fz) b xs
  | Γ, .seq a b, x :: xs => chkS G N sc fb rt Γl Γ a x && chkB G N sc fb rt Γl (out Γ a) b xs
  | _, _, _ => false
end

/-! ### the readings -/
def CN (C : Ct) (Γ : List OT) (A0 : Hp) (K : L2.St → Hp → Prop) (env : Env) : Prop := ∀ σ H fs, SO C.T C.xc Γ fs H σ env → Same A0 (C.xc.A H fs.flatten) → K σ H
/-- what is given back -/
def RR (C : Ct) (t : OT) (H : Hp) (v : V) (d : D) : Prop := ∃ f : List Addr, f.Nodup ∧ (∀ a ∈ f, C.xc.H0 a = none ∨ a ∈ C.xc.W0) ∧ Own C.T (msk H fun a => C.xc.U a ∨ a ∈ f) H t f v d
/-- what is given back where the first argument was lent -/
def RL (C : Ct) (t : OT) (H : Hp) (v : V) (d : D) (e : Env) : Prop := ∃ v0 d0 f0, C.xc.v0 = some v0 ∧ e[0]? = some (some d0) ∧ f0.Nodup ∧ (∀ a ∈ f0, C.xc.H0 a = none ∨ a ∈ C.xc.W0) ∧
  Own C.T (msk H fun a => C.xc.U a ∨ a ∈ f0) H t f0 v0 d0 ∧ Rep C.T (msk H fun a => C.xc.U a ∨ a ∈ f0) v d
def RV (C : Ct) (rt : Rt) (H : Hp) (v : V) (d : D) (e : Env) : Prop := match rt.lt with
  | none => RR C rt.ty H v d
  | some t => RL C t H v d e
def PF (C : Ct) (rt : Rt) (Γn Γl : List OT) (A0 : Hp) (D : Ends) : Fl → Prop
  | .nx e => CN C Γn A0 D.nx e
  | .bk e => CN C Γl A0 D.bk e
  | .ct e => CN C Γl A0 D.ct e
  | .rt d e => ∀ v H, C.xc.Sm H → RV C rt H v d e → D.rt v H
  | .ex k es => C.EX k es
  | .bad => False
def rS (C : Ct) (rt : Rt) (Γl Γ : List OT) (st : IS) : TS := fun D σ H => ∃ fs env, SO C.T C.xc Γ fs H σ env ∧ PF C rt (out Γ st) Γl (C.xc.A H fs.flatten) D (exec C.S env st)
def rR (C : Ct) (Γ : List OT) (rt : Rt) (e : IE) : TE := fun σ H Q => ∃ fs env, SO C.T C.xc Γ fs H σ env ∧ Pst C.EX (fun d => ∀ v H', C.xc.Sm H' → RV C rt H' v d env → Q v H') (ev C.S env e)
section
variable {C : Ct} {rt : Rt} {Γ Γn Γl : List OT} {A0 A1 : Hp} {Dn : Ends}
theorem CN.mono {K : L2.St → Hp → Prop} {env : Env} (h : CN C Γ A0 K env) (s : Same A0 A1) : CN C Γ A1 K env := fun σ H fs so s' => h σ H fs so (s.trans s')
theorem PF.mono {r : Fl} (h : PF C rt Γn Γl A0 Dn r) (s : Same A0 A1) : PF C rt Γn Γl A1 Dn r := by
  cases r with
  | nx e => exact CN.mono h s
  | bk e => exact CN.mono h s
  | ct e => exact CN.mono h s
  | _ => exact h
/-- only the way it ends counts -/
theorem PF.ends {r : Fl} {Γm : List OT} (h : PF C rt Γn Γl A0 Dn r) (k : (∃ e, r = .nx e) → Γm = Γn) : PF C rt Γm Γl A0 Dn r := by
  cases r with
  | nx e => rw [k ⟨e, rfl⟩]; exact h
  | _ => exact h
theorem RO.rr {fs : List (List Addr)} {H H' : Hp} {σ : L2.St} {env : Env} {t : OT} {v : V} {d : D} (so : SO C.T C.xc Γ fs H σ env) (r : RO C.T C.xc t fs.flatten H H' v d) : RR C t H' v d := by
  obtain ⟨f, nf, nw, o⟩ := r
  obtain ⟨_, _, n3⟩ := so.new nw
  refine ⟨f, nf, fun a ha => ?_, o.mono (msk_mono (Same.refl _) fun a q => .inl (q.imp id fun z => List.mem_append_right _ z)) fun _ _ _ _ h => h⟩
  by_cases k : a ∈ C.xc.W0
  · exact .inr k
  · exact .inl (n3 a ha k)
/-- the lent one as it is, beside what stands still -/
theorem SO.rl {fs : List (List Addr)} {H : Hp} {σ : L2.St} {env : Env} {t : OT} {v v0 : V} {d : D} (so : SO C.T C.xc Γ fs H σ env) (hv : C.xc.v0 = some v0) (ht : (Γ[0]?).getD .fz = t) (ho : t.isOi = true) {d0 : D} (h0 : env[0]? = some (some d0)) (r : Rep C.T (C.xc.A H fs.flatten) v d) : RL C t H v d env := by
  obtain ⟨u, t', f, h1, h2, h3, o⟩ := so.sl.get h0
  rw [h2] at ht
  have ht : t' = t := ht
  subst ht
  have e := (so.sf hv h2 ho).1
  rw [h1] at e
  cases e
  have hm : ∀ a ∈ f, a ∈ fs.flatten := fun a ha => List.mem_flatten.mpr ⟨f, List.mem_of_getElem? h3, ha⟩
  have s : Same (C.xc.A H fs.flatten) (msk H fun a => C.xc.U a ∨ a ∈ f) := msk_mono (Same.refl _) fun a z => .inl (z.imp id (hm a))
  exact ⟨_, d0, f, hv, h0, (List.pairwise_flatten.mp so.nd).1 f (List.mem_of_getElem? h3), fun a ha => so.fr a (hm a ha), o.mono s fun _ _ _ _ h => h, r.mono s⟩
theorem Pst.fl {C : Ct} {r : R} {f : D → Fl} (h : PF C rt Γn Γl A0 Dn (r.fl f)) : Pst C.EX (fun d => PF C rt Γn Γl A0 Dn (f d)) r := by
  cases r <;> exact h
theorem Pst.argF {C : Ct} {r : R} {f : List D → Fl} (h : PF C rt Γn Γl A0 Dn (Pv.argF r f)) : Pst C.EX (fun d => ∃ ds, d = .tup ds ∧ PF C rt Γn Γl A0 Dn (f ds)) r := by
  cases r with
  | ok d =>
    cases d with
    | tup ds => exact ⟨ds, rfl, h⟩
    | _ => exact h.elim
  | ex k es => exact h
  | bad => exact h
end
end Pv

/-! Pv, part O: each statement of the text does what the small language says. -/
namespace Pv
open PySem PySem.Spec PyProof.Rows L2
variable [TabC]
structure SF (G : Gt) (C : Ct) (N : List Str) (sc : Scope) (fb : Str → Bool) (X : Cx) : Prop where
  xf : XF G C N sc X
  po : PassesOwn (model X.prog X.w) X.A X.env X.xe
  kind : sc.kind = .function
  fn : ∀ x, fb x = true → X.fn x = true
  tk : Takes X (fun cls d _ H' => EXK C cls d H')
theorem PS.imp {X : Cx} {st : Stmt} {t t' : TS} (h : PS X st t) (i : ∀ D σ H, t' D σ H → t D σ H) : PS X st t' := ⟨fun pins s σ H D I q => h.run pins s σ H D I (i D σ H q)⟩
theorem PSs.imp {X : Cx} {st : List Stmt} {t t' : TS} (h : PSs X st t) (i : ∀ D σ H, t' D σ H → t D σ H) : PSs X st t' := ⟨fun pins s σ H D I q => h.run pins s σ H D I (i D σ H q)⟩
theorem sw_no {v : Expr} (h : noLc v = true) (t : Option Expr) (l : Nat) (env : PySem.Env) : swapsWith v t l env = pure false := by
  cases v <;> first | (cases h; done) | rfl
theorem sw_sub {v o i : Expr} {p : Pos} (l : Nat) (env : PySem.Env) : swapsWith v (some (.Subscript o i p)) l env = pure false := by
  cases v <;> rfl
theorem sw_cell {elt : Expr} {gs : List Comprehension} {scope : Scope} {lp p : Pos} {x : Str} {l : Nat} {env : PySem.Env} (h : env.scope.names.lookup x ≠ some .local) : swapsWith (.ListComp elt gs scope lp) (some (.Name x p)) l env = pure false := by
  have e : (env.kindOf x == some .local) = false := by
    show (env.scope.names.lookup x == some .local) = false
    cases q : env.scope.names.lookup x with
    | none => rfl
    | some k => cases k <;> first | rfl | exact absurd q h
  unfold swapsWith
  simp only [e]
  simp
theorem sole_no {v t : Expr} (h : noLc v = true) (l : Nat) (env : PySem.Env) : swapsWithSole [t] v l env = pure false := by
  unfold swapsWithSole
  exact sw_no h _ _ _
theorem sole_sub {v o i : Expr} {p : Pos} (l : Nat) (env : PySem.Env) : swapsWithSole [.Subscript o i p] v l env = pure false := by
  unfold swapsWithSole
  exact sw_sub _ _
section
variable {G : Gt} {C : Ct} {N : List Str} {sc : Scope} {fb : Str → Bool} {X : Cx} {Γ Γl : List OT} {rt : Rt}
theorem SF.sto (F : SF G C N sc fb X) {x : Str} (h : stoB sc fb x = true) : Loc X.env.scope x ∧ (X.fn x = true ∨ X.env.scope.names.lookup x = some .local) := by
  rw [F.xf.sc]
  unfold stoB at h
  split at h
  · rename_i e; exact ⟨.inl e, .inr e⟩
  · rename_i e; exact ⟨.inr e, .inl (F.fn x h)⟩
  · cases h
theorem fit_ro {e : IE} {t : OT} (h : fitE G Γ t e = true) : okE Γ e = true ∧ ∀ {fs : List (List Addr)} {H H' : Hp} {σ : L2.St} {env : Env} {c : Cfg} {v : V} {d : D}, SO C.T c Γ fs H σ env → RO C.T c (tyE G Γ e) fs.flatten H H' v d → RO C.T c t fs.flatten H H' v d := by
  unfold fitE at h
  simp only [Bool.and_eq_true, Bool.or_eq_true] at h
  refine ⟨h.1, fun so r => ?_⟩
  rcases h.2 with e | e
  · rw [OT.isFz_of e]; exact r.fz so
  · rw [← OT.beq_of e]; exact r
theorem matX_lc {G : Gt} {N : List Str} {sc : Scope} {o : XOp} {elt : Expr} {gs : List Comprehension} {scope : Scope} {lp : Pos} : matX G N sc o (.ListComp elt gs scope lp) = none := by cases o <;> rfl
/-- name = e -/
theorem snd_set (xok : XopOk) (F : SF G C N sc fb X) {i : Nat} {t : OT} {e : IE} {x : Str} {v : Expr} {p pos : Pos} (h : chkS G N sc fb rt Γl Γ (.set i t e) (.Assign [.Name x p] v pos) = true) : PS X (.Assign [.Name x p] v pos) (rS C rt Γl Γ (.set i t e)) := by
  simp only [chkS, Bool.and_eq_true, decide_eq_true_eq] at h
  obtain ⟨⟨⟨⟨⟨⟨hN, hx⟩, h00⟩, hf⟩, hc⟩, hsw⟩, hcl⟩ := h
  obtain ⟨ok, fit⟩ := fit_ro (C := C) hf
  obtain ⟨hl, hfn⟩ := F.sto hx
  have im : ∀ (D : Ends) (σ : L2.St) (H : Hp), rS C rt Γl Γ (.set i t e) D σ H → rE C Γ (tyE G Γ e) e σ H fun w H1 => gName i w σ H1 D.nx := by
    intro Dn σ H q
    obtain ⟨fs, env, so, pf⟩ := q
    refine ⟨_, fs, env, so, so.sm, (Pst.fl pf).imp fun d k w H1 s1 r1 => ?_⟩
    obtain ⟨f, nf, nw, o⟩ := fit so r1
    obtain ⟨so', s'⟩ := so.set s1 i (by
      rcases Bool.or_eq_true_iff.mp h00 with z | z
      · exact .inl (by simpa using z)
      · exact .inr (.inr (by simpa using z))) nf nw o
    exact k _ _ _ so' s'
  have plain : (∀ l, swapsWith v (some (.Name x p)) l X.env = pure false) → PS X (.Assign [.Name x p] v pos) (rS C rt Γl Γ (.set i t e)) := fun hs =>
    PS.imp (ps_set (i := i) (by rw [F.xf.N]; exact F.xf.nd) (by rw [F.xf.N]; exact hN) hl (snd_e xok F.xf ok hc).1 (hs _) hfn) im
  cases v
  case ListComp elt gs scope lp =>
    have hcomp : ∃ e1 t1 it c tg iter ifs, e = .lc e1 t1 it c ∧ gs = [⟨tg, iter, ifs, 0⟩] := by
      unfold chkE at hc
      split at hc
      all_goals first
        | (rename_i e _; cases e; done) | (rename_i e; cases e; done) | (cases hc; done) | (rw [matX_lc] at hc; cases hc; done) | skip
      rename_i q
      injection q with q1 q2 q3
      subst q1 q2 q3
      exact ⟨_, _, _, _, _, _, _, rfl, rfl⟩
    by_cases hloc : locB sc x = true
    · have cond : (p.line == lp.line && !(scope.names.any fun (n, k) => n == x && (k == .local || k == .cell))) = true := by
        unfold swB at hsw
        dsimp only at hsw
        rw [if_pos hloc] at hsw
        split at hsw
        · assumption
        · cases hsw
      obtain ⟨e1, t1, it, c, tg, iter, ifs, rfl, rfl⟩ := hcomp
      obtain ⟨own, wi, g, tt, te, hi, okb, hg, ht, he, hs, imc⟩ := snd_lc xok F.xf ok hc
      have hloc := locB_of hloc
      have c2 := and2 cond
      have hyl : X.env.scope.names.lookup x = some .local := by rw [F.xf.sc]; exact hloc
      refine PS.imp (ps_setLc (i := i) (F.xf.calm (by simpa [noLc] using hcl)) (by rw [F.xf.N]; exact F.xf.nd) (by rw [F.xf.N]; exact hN) hyl (sw_true (by rw [F.xf.sc]; exact F.kind) hyl c2.1 (by simpa using c2.2)) hi okb hg ht he hs) fun D σ H q => ?_
      exact imc _ _ _ (im D σ H q)
    · refine plain fun l => sw_cell fun h => hloc ?_
      rw [F.xf.sc] at h
      unfold locB
      rw [h]
  all_goals first
    | exact plain fun l => sw_no rfl _ _ _
    | (unfold swB at hsw; cases hsw; done)
/-- (a, b, ..) = e -/
theorem snd_asg (xok : XopOk) (F : SF G C N sc fb X) {t : Tg} {e : IE} {es : List Expr} {k : Nat} {v : Expr} {p pos : Pos} (h : chkS G N sc fb rt Γl Γ (.asg t e) (.Assign [.Tuple es k p] v pos) = true) : PS X (.Assign [.Tuple es k p] v pos) (rS C rt Γl Γ (.asg t e)) := by
  simp only [chkS, Bool.and_eq_true] at h
  obtain ⟨⟨⟨⟨⟨hcm, hg⟩, ok⟩, hc⟩, hl⟩, ht⟩ := h
  have hw : swappedStores [.Tuple es k p] v X.env = pure none := by
    cases v <;> first | (cases ht; done) | rfl
  refine PS.imp (ps_asg (snd_e xok F.xf ok hc).1 (sndG (F.xf.calm hcm) F.xf F.fn t _ hg) (sole_no hl _ _) hw) fun D σ H q => ?_
  obtain ⟨fs, env, so, pf⟩ := q
  refine ⟨_, fs, env, so, so.sm, (Pst.fl pf).imp fun d k w H1 s1 r1 => ?_⟩
  cases eb : bindT t d env with
  | none => rw [eb] at k; exact k.elim
  | some env' =>
    rw [eb] at k
    exact ⟨_, Γ, fs, env, d, env', so.mono s1, r1.rep so, eb, fun σ' so' s' off => k _ _ _ so' ((Cfg.A_mono s1).trans s')⟩
theorem SO.write_same {T : Tb} {c : Cfg} {fs : List (List Addr)} {H : Hp} {σ : L2.St} {env : Env} (so : SO T c Γ fs H σ env) {i : Nat} {f g : List Addr} {p : Addr} {ob : HO} (hf : fs[i]? = some f) (hp : p ∈ f) (hg : ∀ a ∈ g, a ∈ f) :
    Same (c.A H fs.flatten) (c.A (upd H p ob) (fs.set i g).flatten) := by
  have hm : ∀ a ∈ f, a ∈ fs.flatten := fun a ha => List.mem_flatten.mpr ⟨f, List.mem_of_getElem? hf, ha⟩
  refine Same.of2 fun a q h => ?_
  obtain ⟨h1, h2⟩ := msk_some.mp h
  refine msk_some.mpr ⟨fun z => h1 (z.elim .inl fun z => .inr ((flat_set z).elim (fun k => hm a (hg a k)) id)), ?_⟩
  have ne : a ≠ p := fun e => h1 (.inr (by rw [e]; exact hm p hp))
  rw [upd_ne ne]
  exact h2
/-- a list of one's own: its object is replaced -/
theorem SO.list {T : Tb} {c : Cfg} {fs : List (List Addr)} {H : Hp} {σ : L2.St} {env : Env} (so : SO T c Γ fs H σ env) {i : Nat} {ds : List D} (hz : (Γ[i]?).getD .fz = .ol .fz) (e : env[i]? = some (some (.lst ds))) :
    ∃ (p : Addr) (vs : List V), σ[i]? = some (some (.ref p)) ∧ H p = some (.lst vs) ∧ RepA T (c.A H fs.flatten) vs ds ∧
      ∀ vs' ds', RepA T (c.A H fs.flatten) vs' ds' → SO T c Γ (fs.set i [p]) (upd H p (.lst vs')) σ (env.set i (some (.lst ds'))) ∧ Same (c.A H fs.flatten) (c.A (upd H p (.lst vs')) (fs.set i [p]).flatten) := by
  obtain ⟨v, t, f, h1, h2, h3, o⟩ := so.sl.get e
  rw [h2] at hz
  have hz : t = .ol .fz := hz
  subst hz
  cases o with
  | @ol _ f' p vs _ hp ol =>
    obtain ⟨ef, ra⟩ := ol.to_rep
    refine ⟨p, vs, h1, hp, ra, fun vs' ds' r' => ?_⟩
    have hg : ∀ a ∈ [p], a ∈ p :: f' := fun a ha => by rw [List.mem_singleton] at ha; rw [ha]; exact List.mem_cons_self
    have ss := so.write_same (ob := .lst vs') h3 List.mem_cons_self hg
    have w := so.write (t' := .ol .fz) h3 List.mem_cons_self hp pln_lst hg (by simp) h1 h2 (fun z => by cases z) (.ol upd_same (.of_rep (r'.mono ss)))
    rwa [show Γ.set i (.ol .fz) = Γ from List.ext_getElem? fun j => by
      by_cases e : i = j
      · subst e
        rw [List.getElem?_set_self (List.getElem?_eq_some_iff.mp h2).1, h2]
      · rw [List.getElem?_set_ne e]] at w
/-- name[k] = e -/
theorem snd_sub (xok : XopOk) (F : SF G C N sc fb X) {i : Nat} {k e : IE} {x : Str} {y v : Expr} {p p2 pos : Pos} (h : chkS G N sc fb rt Γl Γ (.sub i k e) (.Assign [.Subscript (.Name x p) y p2] v pos) = true) : PS X (.Assign [.Subscript (.Name x p) y p2] v pos) (rS C rt Γl Γ (.sub i k e)) := by
  simp only [chkS, Bool.and_eq_true, decide_eq_true_eq] at h
  obtain ⟨⟨⟨⟨⟨⟨⟨⟨hN, hv⟩, hk⟩, hz⟩, hsl⟩, ok1⟩, ok2⟩, hc1⟩, hc2⟩ := h
  obtain ⟨o1, o2, o3⟩ := okN_of hk
  have hz := OT.beq_of hz
  have ha : ∀ w, assign (.Subscript (.Name x p) y p2) X.env w = (do
      let ov ← holding [w] (eval (.Name x p) X.env)
      let iv ← holding [w, ov] (eval y X.env)
      standAt p2
      holding [w, ov, iv] (setItem ov iv w)
      release [w, ov, iv] []) := by
    intro w
    cases y <;> first | (cases hsl; done) | rfl
  have pg := pg_sub (pos := p2) (pe_var (i := i) (pos := p) (by rw [F.xf.N]; exact hN) (F.xf.vis hv) o1 o2) (snd_e xok F.xf ok1 hc1).1 set_list ha
  refine PS.imp (ps_asg (snd_e xok F.xf ok2 hc2).1 pg (sole_sub _ _) (by cases v <;> rfl)) fun D σ H q => ?_
  obtain ⟨fs, env, so, pf⟩ := q
  refine ⟨_, fs, env, so, so.sm, (Pst.fl pf).imp fun d q w H1 s1 r1 => ?_⟩
  have so1 := so.mono s1
  have rw1 := r1.rep so
  split at q
  · rename_i ds el
    obtain ⟨p, vs, h1, hp, ra, _⟩ := so1.list hz el
    refine ⟨.ref p, h1, _, fs, env, so1, so1.sm, (Pst.fl q).imp fun j q u H2 s2 r2 => ?_⟩
    have so2 := so1.mono s2
    obtain ⟨p', vs', h1', hp', ra', up⟩ := so2.list hz el
    rw [h1] at h1'
    cases h1'
    cases j with
    | int j =>
      dsimp only at q
      split at q
      · rename_i n hn
        have hn' : ixN vs'.length j = some n := by rw [ra'.length]; exact hn
        obtain ⟨so3, s3⟩ := up (vs'.set n w) (ds.set n d) (ra'.set n (rw1.mono (Cfg.A_mono s2)))
        exact ⟨p, vs', j, n, rfl, r2.int, hp', hn', q _ _ _ so3 (((Cfg.A_mono s1).trans (Cfg.A_mono s2)).trans s3)⟩
      · exact q.elim
    | _ => exact q.elim
  · exact q.elim
/-- name.append(e) -/
theorem snd_app (xok : XopOk) (F : SF G C N sc fb X) {i : Nat} {e : IE} {x at' : Str} {v : Expr} {p ap cp pos : Pos} (h : chkS G N sc fb rt Γl Γ (.app i e) (.Expr (.Call (.Attribute (.Name x p) at' ap) [v] [] cp) pos) = true) :
    PS X (.Expr (.Call (.Attribute (.Name x p) at' ap) [v] [] cp) pos) (rS C rt Γl Γ (.app i e)) := by
  simp only [chkS, Bool.and_eq_true, decide_eq_true_eq] at h
  obtain ⟨⟨⟨⟨⟨⟨⟨⟨rfl, hN⟩, hv⟩, hk⟩, hz⟩, hl⟩, hpl⟩, ok⟩, hc⟩ := h
  obtain ⟨o1, o2, o3⟩ := okN_of hk
  have hz := OT.beq_of hz
  have hs := star_plain hpl [] X.env
  have pe := pe_bm (X := X) (apos := ap) (cpos := cp) PySem.F.plainAttrs_list PySem.F.slot_list_append PySem.F.type_list_append mt_append (pe_var (i := i) (pos := p) (by rw [F.xf.N]; exact hN) (F.xf.vis hv) o1 o2)
    (rA_one hpl (snd_e xok F.xf ok hc).1) rfl (by rw [hs]; rfl) hl hs rfl
  refine PS.imp (ps_expr pe) fun D σ H q => ?_
  obtain ⟨fs, env, so, pf⟩ := q
  simp only [exec] at pf
  split at pf
  · rename_i ds el
    obtain ⟨p, vs, h1, hp, ra, _⟩ := so.list hz el
    refine ⟨.ref p, h1, .inl ⟨rfl, _, .of hp⟩, _, fs, env, so, so.sm, ?_⟩
    show Pst _ _ (consD (ev C.S env e) (.ok (.tup [])))
    have pf' := Pst.fl pf
    cases ee : ev C.S env e with
    | ok d =>
      rw [ee] at pf'
      intro ds' us H1 e1 s1 r1
      cases e1
      have so1 := so.mono s1
      obtain ⟨p', vs', h1', hp', ra', up⟩ := so1.list hz el
      rw [h1] at h1'
      cases h1'
      cases r1.rep so with
      | @cons u _ _ _ ru rn =>
        cases rn
        have pf' : PF C rt _ _ _ _ (if ds.length < lim then Fl.nx (env.set i (some (.lst (ds ++ [d])))) else .bad) := pf'
        split at pf'
        · rename_i hlt
          obtain ⟨so3, s3⟩ := up (vs' ++ [u]) (ds ++ [d]) (ra'.append (.cons ru .nil))
          exact ⟨p, vs', u, rfl, rfl, hp', by rw [ra'.length]; exact Nat.lt_of_lt_of_le hlt lim_le, pf' _ _ _ so3 ((Cfg.A_mono s1).trans s3)⟩
        · exact pf'.elim
    | ex k es => rw [ee] at pf'; exact pf'
    | bad => rw [ee] at pf'; exact pf'
  · exact pf.elim
end
end Pv

/-! Pv, part P: return, tests, loops, blocks. -/
namespace Pv
open PySem PySem.Spec PyProof.Rows L2
variable [TabC]
section
variable {G : Gt} {C : Ct} {N : List Str} {sc : Scope} {fb : Str → Bool} {X : Cx} {Γ Γl : List OT} {rt : Rt}
theorem flat_one {fs : List (List Addr)} {i : Nat} {f : List Addr} (n : fs.flatten.Nodup) (h : fs[i]? = some f) : f.Nodup :=
  (List.pairwise_flatten.mp n).1 f (List.mem_of_getElem? h)
theorem flat_apart {fs : List (List Addr)} {i j : Nat} {f g : List Addr} (n : fs.flatten.Nodup) (h : fs[i]? = some f) (k : fs[j]? = some g) (ne : i ≠ j) : ∀ a ∈ f, a ∉ g := fun a ha hg =>
  flat_out n h a ha (List.mem_flatten.mpr ⟨g, List.mem_of_getElem? (i := j) (by rw [List.getElem?_set_ne ne]; exact k), hg⟩)
/-- what is told of arguments of which some are given away -/
def ROM (T : Tb) (c : Cfg) (us : List Nat) (ts : List OT) (fs : List (List Addr)) (H H' : Hp) (vs : List V) (ds : List D) : Prop :=
  ∃ f : List Addr, f.Nodup ∧ (∀ a ∈ f, H a = none ∨ (a ∈ fs.flatten ∧ ∀ i ∈ us, a ∉ (fs[i]?).getD [])) ∧ OwnL T (c.A H' (fs.flatten ++ f)) H' ts f vs ds
def rM (C : Ct) (Γ : List OT) (us : List Nat) (ts : List OT) (e : IE) : TA := fun σ H Q => ∃ c fs env, SO C.T c Γ fs H σ env ∧ C.xc.Sm H ∧
  Pst C.EX (fun d => ∀ ds vs H', d = .tup ds → Ev H H' → ROM C.T c us ts fs H H' vs ds → Q vs H') (ev C.S env e)
theorem chk_vr {i : Nat} {x : Expr} (h : chkE G N sc (.vr i) x = true) : ∃ y p, x = .Name y p ∧ N[i]? = some y ∧ visB sc y = true ∧ okN y = true := by
  unfold chkE at h
  split at h
  · rename_i e
    injection e with e
    subst e
    simp only [Bool.and_eq_true, decide_eq_true_eq] at h
    exact ⟨_, _, rfl, h.1.1, h.1.2, h.2⟩
  all_goals first | (rename_i e _; cases e; done) | (rename_i e; cases e; done) | (cases h; done)
theorem sndM_gen {x : Expr} {xs : List Expr} {us : List Nat} {e a : IE} {t : OT} {ts : List OT} (hp : plainX x = true) (ha : PE X x (rE C Γ t e)) (hr : PA X xs (rM C Γ us ts a)) : PA X (x :: xs) (rM C Γ us (t :: ts) (.cons e a)) :=
  PA.imp (pa_cons ha hr (star_plain hp _ _)) fun σ H Q h => by
    obtain ⟨c, fs, env, so, sm, p⟩ := h
    refine ⟨c, fs, env, so, sm, (Pst.cons p).imp fun d k v H1 s1 r1 => ?_⟩
    obtain ⟨f1, n1, w1, o1⟩ := r1
    have d1 := o1.dom
    refine ⟨{ c with U := fun a => c.U a ∨ a ∈ f1 }, fs, env, so.hide s1 w1 d1, sm.mono s1, Pst.imp k fun d' k ds vs H2 e s2 r2 => ?_⟩
    subst e
    obtain ⟨ds', e, q⟩ := k
    cases e
    refine q (d :: ds) (v :: vs) H2 rfl (s1.trans s2) ?_
    obtain ⟨f2, n2, w2, o2⟩ := r2
    have apart : ∀ a ∈ f1, a ∉ f2 := fun a ha hb => (w2 a hb).elim (d1 a ha) fun z => so.dom a z.1 (w1 a ha)
    refine ⟨f1 ++ f2, List.nodup_append.mpr ⟨n1, n2, fun a ha b hb e => by subst e; exact apart a ha hb⟩, fun a ha => (List.mem_append.mp ha).elim (fun z => .inl (w1 a z)) fun z => (w2 a z).imp (fun z => s1.free z) id, .cons (o1.mono (msk_mono s2.toSame fun a z => ?_) fun a ha o n h => s2.at_ h n) (o2.mono (msk_mono (Same.refl _) fun a z => .inl ?_) fun a ha o _ h => h)⟩
    · rcases z with z | z
      · exact .inl (.inl z)
      · rcases List.mem_append.mp z with z | z
        · exact .inl (.inr (List.mem_append_left _ z))
        · rcases List.mem_append.mp z with z | z
          · exact .inl (.inr (List.mem_append_right _ z))
          · exact (w2 a z).elim .inr fun z => .inl (.inr (List.mem_append_left _ z.1))
    · rcases z with z | z
      · exact .inl (.inl z)
      · rcases List.mem_append.mp z with z | z
        · exact .inr (List.mem_append_left _ z)
        · rcases List.mem_append.mp z with z | z
          · exact .inl (.inr z)
          · exact .inr (List.mem_append_right _ z)
theorem sndM_mv (F : XF G C N sc X) {x : Expr} {xs : List Expr} {us : List Nat} {i : Nat} {a : IE} {t : OT} {ts : List OT} (hc : chkE G N sc (.vr i) x = true) (hz : (Γ[i]?).getD .fz = t) (hu : us.contains i = false) (hr : PA X xs (rM C Γ (i :: us) ts a)) : PA X (x :: xs) (rM C Γ us (t :: ts) (.cons (.vr i) a)) := by
  obtain ⟨y, p', rfl, q1, q2, q3⟩ := chk_vr hc
  obtain ⟨o1, o2, o3⟩ := okN_of q3
  refine PA.imp (pa_cons (pe_var (i := i) (by rw [F.N]; exact q1) (F.vis q2) o1 o2) hr rfl) fun σ H Q h => ?_
  obtain ⟨c, fs, env, so, sm, p⟩ := h
  have p := Pst.cons p
  simp only [ev] at p
  split at p
  · rename_i d e
    obtain ⟨v, t', f, h1, h2, h3, o⟩ := so.sl.get e
    rw [h2] at hz
    have hz : t' = t := hz
    subst hz
    refine ⟨v, h1, c, fs, env, so, sm, Pst.imp p fun d' k ds vs H2 e s2 r2 => ?_⟩
    subst e
    obtain ⟨ds', e, q⟩ := k
    cases e
    refine q (d :: ds) (v :: vs) H2 rfl s2 ?_
    obtain ⟨f2, n2, w2, o2⟩ := r2
    have hm : ∀ a ∈ f, a ∈ fs.flatten := fun a ha => List.mem_flatten.mpr ⟨f, List.mem_of_getElem? h3, ha⟩
    have apart : ∀ a ∈ f, a ∉ f2 := fun a ha hb => (w2 a hb).elim (so.dom a (hm a ha)) fun z => z.2 i List.mem_cons_self (by rw [h3]; exact ha)
    refine ⟨f ++ f2, List.nodup_append.mpr ⟨flat_one so.nd h3, n2, fun a ha b hb e => by subst e; exact apart a ha hb⟩, fun a ha => (List.mem_append.mp ha).elim (fun z => .inr ⟨hm a z, fun j hj hx => ?_⟩) fun z => (w2 a z).imp id fun z => ⟨z.1, fun j hj => z.2 j (List.mem_cons_of_mem _ hj)⟩, .cons (o.mono (msk_mono s2.toSame fun a z => ?_) fun a ha o n h => s2.at_ h n) (o2.mono (msk_mono (Same.refl _) fun a z => .inl ?_) fun a ha o _ h => h)⟩
    · cases ej : fs[j]? with
      | none => rw [ej] at hx; cases hx
      | some g =>
        rw [ej] at hx
        refine flat_apart so.nd h3 ej (fun e => ?_) a z hx
        subst e
        rw [List.contains_eq_mem] at hu
        simp [hj] at hu
    · rcases z with z | z
      · exact .inl (.inl z)
      · rcases List.mem_append.mp z with z | z
        · exact .inl (.inr z)
        · rcases List.mem_append.mp z with z | z
          · exact .inl (.inr (hm a z))
          · exact (w2 a z).elim .inr fun z => .inl (.inr z.1)
    · rcases z with z | z
      · exact .inl z
      · rcases List.mem_append.mp z with z | z
        · exact .inr (List.mem_append_left _ z)
        · rcases List.mem_append.mp z with z | z
          · exact .inr (List.mem_append_left _ (hm a z))
          · exact .inr (List.mem_append_right _ z)
  · exact p.elim
theorem sndM (xok : XopOk) (F : XF G C N sc X) : ∀ (as : IE) (xs : List Expr) (us : List Nat) (ts : List OT), mvA G Γ us as ts = true → chkA G N sc as xs = true → PA X xs (rM C Γ us ts as)
  | .nil, [], us, [], _, _ => PA.imp pa_nil fun σ H Q h => by
    obtain ⟨c, fs, env, so, sm, p⟩ := h
    exact p [] [] H rfl (Ev.refl H) ⟨[], List.nodup_nil, (fun a h => by cases h), .nil⟩
  | .cons e a, x :: xs, us, t :: ts, hm, hc => by
    simp only [chkA, Bool.and_eq_true] at hc
    have gen : fitE G Γ t e = true → PE X x (rE C Γ t e) := fun h => by
      obtain ⟨ok, fit⟩ := fit_ro (C := C) h
      exact PE.imp (snd_e xok F ok hc.1.2).1 fun σ H Q q => by
        obtain ⟨c, fs, env, so, sm, p⟩ := q
        exact ⟨c, fs, env, so, sm, p.imp fun d k v H1 s1 r1 => k v H1 s1 (fit so r1)⟩
    unfold mvA at hm
    split at hm
    · obtain ⟨h1, h2⟩ := and2 hm
      exact sndM_gen hc.1.1 (gen (by unfold fitE; rw [okE, h1]; rfl)) (sndM xok F a xs _ ts h2 hc.2)
    · obtain ⟨h1, h2⟩ := and2 hm
      obtain ⟨h1, h3⟩ := and2 h1
      exact sndM_mv F hc.1.2 (OT.beq_of h1) (by simpa using h3) (sndM xok F a xs _ ts h2 hc.2)
    · obtain ⟨h1, h2⟩ := and2 hm
      exact sndM_gen hc.1.1 (gen h1) (sndM xok F a xs _ ts h2 hc.2)
  | .nil, [], _, _ :: _, hm, _ => by simp [mvA] at hm
  | .nil, _ :: _, _, _, _, hc => by simp [chkA] at hc
  | .cons _ _, [], _, _, _, hc => by simp [chkA] at hc
  | .cons _ _, _ :: _, _, [], hm, _ => by simp [mvA] at hm
/-- what is given back -/
theorem snd_rR0 (xok : XopOk) (F : XF G C N sc X) {t0 : OT} {e : IE} {x : Expr} (h : retB G Γ t0 e = true) (hc : chkE G N sc e x = true) : PE X x (rR C Γ ⟨t0, none⟩ e) := by
  have gen : fitE G Γ t0 e = true → PE X x (rR C Γ ⟨t0, none⟩ e) := fun h => by
    obtain ⟨ok, fit⟩ := fit_ro (C := C) h
    refine PE.imp (snd_e xok F ok hc).1 fun σ H Q q => ?_
    obtain ⟨fs, env, so, p⟩ := q
    exact ⟨_, fs, env, so, so.sm, p.imp fun d k v H1 s1 r1 => k v H1 (so.sm.mono s1) ((fit so r1).rr so)⟩
  unfold retB at h
  split at h
  · rename_i i
    obtain ⟨y, p', rfl, q1, q2, q3⟩ := chk_vr hc
    obtain ⟨o1, o2, o3⟩ := okN_of q3
    refine PE.imp (pe_var (i := i) (by rw [F.N]; exact q1) (F.vis q2) o1 o2) fun σ H Q q => ?_
    obtain ⟨fs, env, so, p⟩ := q
    simp only [ev] at p
    split at p
    · rename_i d e
      obtain ⟨v, t', f, h1, h2, h3, o⟩ := so.sl.get e
      have h := OT.beq_of h
      rw [h2] at h
      have h : t' = t0 := h
      subst h
      have hm : ∀ a ∈ f, a ∈ fs.flatten := fun a ha => List.mem_flatten.mpr ⟨f, List.mem_of_getElem? h3, ha⟩
      exact ⟨v, h1, p v H so.sm ⟨f, flat_one so.nd h3, fun a ha => so.fr a (hm a ha), o.mono (msk_mono (Same.refl _) fun a z => .inl (z.imp id (hm a))) fun _ _ _ _ h => h⟩⟩
    · exact p.elim
  · rename_i ts as
    have hx : ∃ xs k p, x = .Tuple xs k p ∧ chkA G N sc as xs = true := by
      unfold chkE at hc
      split at hc
      all_goals first
        | (rename_i q; injection q with q; subst q; exact ⟨_, _, _, rfl, hc⟩)
        | (rename_i e _; cases e; done) | (rename_i e; cases e; done) | (cases hc; done)
    obtain ⟨xs, k, p, rfl, hca⟩ := hx
    refine PE.imp (pe_tup (sndM xok F as xs [] ts h hca)) fun σ H Q q => ?_
    obtain ⟨fs, env, so, p⟩ := q
    refine ⟨_, fs, env, so, so.sm, (Pst.arg p).imp fun d k ds vs H1 e s1 r1 => ?_⟩
    subst e
    obtain ⟨ds', e, q⟩ := k
    cases e
    unfold mkT at q
    split at q
    · rename_i hl
      obtain ⟨f, nf, wf, o⟩ := r1
      refine ⟨by rw [o.length.1]; exact Nat.le_trans hl lim_le, fun p np => q _ _ ((so.sm.mono s1).mono (same_upd np)) ?_⟩
      have hpf : p ∉ f := fun h => o.dom p h np
      have np0 : H p = none := s1.free np
      have w0 : ∀ a, H a = none → C.xc.H0 a = none ∨ a ∈ C.xc.W0 := fun a ha => by
        by_cases k : a ∈ C.xc.W0
        · exact .inr k
        · exact .inl ((so.new (f := [a]) (fun b hb => by rw [List.mem_singleton] at hb; rw [hb]; exact ha)).2.2 a (by simp) k)
      refine ⟨p :: f, List.nodup_cons.mpr ⟨hpf, nf⟩, fun a ha => ?_, .ot upd_same (o.mono (msk_mono (same_upd np).toSame fun a z => ?_) fun a ha ob _ h => by rw [upd_ne (ne_of_none h np)]; exact h)⟩
      · rcases List.mem_cons.mp ha with e | ha
        · rw [e]; exact w0 p np0
        · exact (wf a ha).elim (w0 a) fun z => so.fr a z.1
      · rcases z with z | z
        · exact .inl (.inl z)
        · rcases List.mem_cons.mp z with e | z
          · rw [e]; exact .inr np
          · exact .inl (.inr (List.mem_append_right _ z))
    · exact q.elim
  · exact gen h
theorem SO.lent0 {T : Tb} {c : Cfg} {fs : List (List Addr)} {H : Hp} {σ : L2.St} {env : Env} {v0 : V} (so : SO T c Γ fs H σ env) (hv : c.v0 = some v0) (ho : ((Γ[0]?).getD OT.fz).isOi = true) : ∃ d0, env[0]? = some (some d0) := by
  cases e : Γ[0]? with
  | none => rw [e] at ho; cases ho
  | some t =>
    rw [e] at ho
    exact (so.sf hv e ho).2
theorem snd_rR (xok : XopOk) (F : XF G C N sc X) (hl : rt.lt.isSome = true → C.xc.v0.isSome = true) {e : IE} {x : Expr} (h : retX G Γ rt e = true) (hc : chkE G N sc e x = true) : PE X x (rR C Γ rt e) := by
  unfold retX at h
  obtain ⟨ty, lt⟩ := rt
  cases lt with
  | none => exact snd_rR0 xok F h hc
  | some t =>
    simp only [Bool.and_eq_true] at h
    obtain ⟨⟨⟨h1, h2⟩, h3⟩, h4⟩ := h
    obtain ⟨v0, hv⟩ := Option.isSome_iff_exists.mp (hl rfl)
    refine PE.imp (snd_e xok F h2 hc).1 fun σ H Q q => ?_
    obtain ⟨fs, env, so, p⟩ := q
    refine ⟨_, fs, env, so, so.sm, p.imp fun d k v H1 s1 r1 => ?_⟩
    obtain ⟨d0, h0⟩ := so.lent0 hv (by rw [OT.beq_of h3]; exact h4)
    exact k v H1 (so.sm.mono s1) ((so.mono s1).rl hv (OT.beq_of h3) h4 h0 (r1.rep so))
end
end Pv

/-! Pv, part Q: tests, loops, blocks; the whole of a body. -/
namespace Pv
open PySem PySem.Spec PyProof.Rows L2
variable [TabC]
section
variable {G : Gt} {C : Ct} {N : List Str} {sc : Scope} {fb : Str → Bool} {X : Cx} {Γ Γl : List OT} {rt : Rt}
theorem snd_iteS {z : Expr} {xs ys : List Stmt} {pos : Pos} {c : IE} {a b : IS} (hc : PT X z (rT C Γ c)) (ha : PSs X xs (rS C rt Γl Γ a)) (hb : PSs X ys (rS C rt Γl Γ b)) (ag : ends a = false ∨ ends b = false ∨ out Γ a = out Γ b) :
    PS X (.If z xs ys pos) (rS C rt Γl Γ (.ite c a b)) := by
  refine PS.imp (ps_if hc ha hb) fun D σ H q => ?_
  obtain ⟨fs, env, so, pf⟩ := q
  refine ⟨_, fs, env, so, so.sm, (Pst.fl pf).imp fun d k => ?_⟩
  cases d with
  | bl v =>
    refine ⟨v, rfl, fun H1 s1 => ?_⟩
    cases v with
    | true =>
      rw [if_pos rfl]
      refine ⟨fs, env, so.mono s1, (PF.ends k ?_).mono (Cfg.A_mono s1)⟩
      rintro ⟨e, he⟩
      have ea : ends a = true := by
        cases h : ends a with
        | true => rfl
        | false => exact absurd he (ends_nx h)
      rw [out, if_pos ea]
    | false =>
      rw [if_neg Bool.false_ne_true]
      refine ⟨fs, env, so.mono s1, (PF.ends k ?_).mono (Cfg.A_mono s1)⟩
      rintro ⟨e, he⟩
      have eb : ends b = true := by
        cases h : ends b with
        | true => rfl
        | false => exact absurd he (ends_nx h)
      rw [out]
      split
      · rename_i ea
        rcases ag with h | h | h
        · rw [ea] at h; cases h
        · rw [eb] at h; cases h
        · exact h.symm
      · rfl
  | _ => exact k.elim
theorem setAll_fz {T : Tb} {A H : Hp} {fs : List (List Addr)} {σ : L2.St} {env : Env} {vs : List Nat} (sl : Sl T A H Γ fs σ env) (h : ∀ i ∈ vs, ((Γ[i]?).getD .fz).isFz = true) : setAll .fz Γ vs = Γ ∧ setAll [] fs vs = fs :=
  ⟨setAll_id fun j hj => (sl.fz_at j (h j hj)).1, setAll_id fun j hj => (sl.fz_at j (h j hj)).2⟩
def turnF (f : Env → Fl) : Fl → Fl
  | .nx e => f e
  | .ct e => f e
  | .bk e => .nx e
  | r => r
/-- the turn of a loop: what comes of it -/
theorem turn_pf {b : IS} {A0 A1 : Hp} {Dn : Ends} {K : L2.St → Hp → Prop} {f : Env → Fl} {r : Fl} {S : Sem1} {e0 : Env} (hr : r = Pv.exec S e0 b) (ho : ends b = true → out Γ b = Γ) (s : Same A0 A1)
    (h : PF C rt Γ Γl A0 Dn (turnF f r))
    (k : ∀ e σ H fs, SO C.T C.xc Γ fs H σ e → Same A1 (C.xc.A H fs.flatten) → PF C rt Γ Γl A0 Dn (f e) → K σ H) : PF C rt (out Γ b) Γ A1 { Dn with nx := K, ct := K, bk := Dn.nx } r := by
  cases r with
  | nx e =>
    intro σ H fs so s'
    have eb : ends b = true := by
      cases hh : ends b with
      | true => rfl
      | false => exact absurd hr.symm (ends_nx hh)
    rw [ho eb] at so
    exact k e σ H fs so s' h
  | ct e => exact fun σ H fs so s' => k e σ H fs so s' h
  | bk e => exact fun σ H fs so s' => h σ H fs so (s.trans s')
  | rt d e => exact h
  | ex c es => exact h
  | bad => exact h
theorem snd_forS (hcm : X.calm = true) (F : SF G C N sc fb X) {tg iter : Expr} {xs : List Stmt} {pos : Pos} {t : Tg} {it : IE} {b : IS} (hi : PI X tg iter (rI C Γ it)) (hg : PG X tg (rG C t)) (hb : PSs X xs (rS C rt Γ Γ b)) (hfold : ∀ x, foldedSetIterable iter X.env x = pure x)
    (hz : ∀ i ∈ t.own, ((Γ[i]?).getD .fz).isFz = true) (ho : ends b = true → out Γ b = Γ) : PS X (.For tg iter xs [] pos) (rS C rt Γl Γ (.for t it b)) := by
  refine PS.imp (ps_for F.po hcm hi hg hb hfold) fun D σ H q => ?_
  obtain ⟨fs, env, so, pf⟩ := q
  refine ⟨_, fs, env, so, so.sm, ?_⟩
  have pf : PF C rt Γ Γl (C.xc.A H fs.flatten) D (match ev C.S env it with
    | .ok (.tup ds) => forL (fun d e => optF (bindT t d e) fun e' => Pv.exec C.S e' b) ds env
    | .ex c ds => .ex c ds
    | _ => .bad) := pf
  cases ei : ev C.S env it with
  | bad => rw [ei] at pf; exact pf
  | ex k es => rw [ei] at pf; exact pf
  | ok d =>
    rw [ei] at pf
    intro items J H1 e1 s1 iok
    subst e1
    obtain ⟨g, Y, w, hgs, hy⟩ := iok
    refine for_it w (fun i σ' H' => ∃ fs' env', SO C.T C.xc Γ fs' H' σ' env' ∧ Same (C.xc.A H1 fs.flatten) (C.xc.A H' fs'.flatten) ∧ PF C rt Γ Γl (C.xc.A H fs.flatten) D (forL (fun d e => optF (bindT t d e) fun e' => Pv.exec C.S e' b) (items.drop i) env')) ⟨fs, env, so.mono s1, Same.refl _, pf⟩ ?_ ?_ ?_
    · rintro i σ' H' hi' ⟨fs', env', so', sA, pf'⟩
      exact hgs _ (sA.trans msk_same)
    · rintro i x σ' Hc H' hi' ⟨fs', env', so', sA, pf'⟩ y
      obtain ⟨sy, hrep⟩ := hy i Hc x H' hi' (sA.trans msk_same) y
      obtain ⟨d, ed, rd⟩ := hrep (fun a => C.xc.U a ∨ a ∈ fs'.flatten) (fun a q => q.elim (so'.dm a) (so'.dom a)) sA
      have so2 := so'.mono sy
      have edrop : items.drop i = d :: items.drop (i + 1) := by
        rw [List.drop_eq_getElem_cons hi']
        rw [List.getElem?_eq_getElem hi'] at ed
        cases ed
        rfl
      rw [edrop] at pf'
      cases eb : bindT t d env' with
      | none =>
        have : PF C rt Γ Γl (C.xc.A H fs.flatten) D (turnF (fun e => forL (fun d e => optF (bindT t d e) fun e' => Pv.exec C.S e' b) (items.drop (i + 1)) e) (optF (bindT t d env') fun e' => Pv.exec C.S e' b)) := by
          rw [forL] at pf'
          exact pf'
        rw [eb] at this
        exact this.elim
      | some e1 =>
        have pf2 : PF C rt Γ Γl (C.xc.A H fs.flatten) D (turnF (fun e => forL (fun d e => optF (bindT t d e) fun e' => Pv.exec C.S e' b) (items.drop (i + 1)) e) (optF (bindT t d env') fun e' => Pv.exec C.S e' b)) := by
          rw [forL] at pf'
          exact pf'
        rw [eb] at pf2
        refine ⟨_, Γ, fs', env', d, e1, so2, rd, eb, fun σ2 so3 s3 off => ?_⟩
        obtain ⟨f1, f2⟩ := setAll_fz so2.sl hz
        rw [f1, f2] at so3
        have sA0 : Same (C.xc.A H fs.flatten) (C.xc.A H' fs'.flatten) := (Cfg.A_mono s1).trans (sA.trans (Cfg.A_mono sy))
        refine ⟨fs', e1, so3, turn_pf rfl ho sA0 pf2 fun e σ3 H3 fs3 so4 s4 pf3 => ⟨fs3, e, so4, (sA.trans (Cfg.A_mono sy)).trans s4, pf3⟩⟩
    · rintro σ' H' ⟨fs', env', so', sA, pf'⟩
      have : items.drop items.length = [] := by simp
      rw [this] at pf'
      exact pf' _ _ _ so' ((Cfg.A_mono s1).trans sA)
theorem snd_whlS (F : SF G C N sc fb X) {z : Expr} {xs : List Stmt} {pos : Pos} {c : IE} {b : IS} (hc : PT X z (rT C Γ c)) (hb : PSs X xs (rS C rt Γ Γ b)) (ho : ends b = true → out Γ b = Γ) : PS X (.While z xs [] pos) (rS C rt Γl Γ (.whl c b)) := by
  refine PS.imp (ps_while F.po hc hb) fun D σ H q => ?_
  obtain ⟨fs, env, so, pf⟩ := q
  have pf : PF C rt Γ Γl (C.xc.A H fs.flatten) D (whL (fun e => ev C.S e c) (fun e => Pv.exec C.S e b) env) := pf
  have hne : whL (fun e => ev C.S e c) (fun e => Pv.exec C.S e b) env ≠ .bad := fun h => by rw [h] at pf; exact pf
  obtain ⟨n, hn⟩ := whL_ends hne
  refine ⟨fun m σ' H' => ∃ fs' env' r, SO C.T C.xc Γ fs' H' σ' env' ∧ Same (C.xc.A H fs.flatten) (C.xc.A H' fs'.flatten) ∧ whN (fun e => ev C.S e c) (fun e => Pv.exec C.S e b) m env' = some r ∧ PF C rt Γ Γl (C.xc.A H fs.flatten) D r, ⟨n, fs, env, _, so, Same.refl _, hn, pf⟩, ?_⟩
  rintro m σ' H' ⟨fs', env', r, so', sA, hm, pr⟩
  refine ⟨_, fs', env', so', so'.sm, ?_⟩
  cases m with
  | zero => simp [whN] at hm
  | succ m =>
    rw [whN] at hm
    cases ec : ev C.S env' c with
    | bad => rw [ec] at hm; cases hm; exact pr.elim
    | ex k es => rw [ec] at hm; cases hm; exact pr
    | ok d =>
      rw [ec] at hm
      cases d with
      | bl v =>
        refine ⟨v, rfl, fun H1 s1 => ?_⟩
        have so1 := so'.mono s1
        have sA1 := sA.trans (Cfg.A_mono (c := C.xc) (W := fs'.flatten) s1)
        cases v with
        | true =>
          show (if true = true then _ else _)
          rw [if_pos rfl]
          refine ⟨fun σ2 H2 => ∃ fs2 e2 r2, SO C.T C.xc Γ fs2 H2 σ2 e2 ∧ Same (C.xc.A H fs.flatten) (C.xc.A H2 fs2.flatten) ∧ whN (fun e => ev C.S e c) (fun e => Pv.exec C.S e b) m e2 = some r2 ∧ PF C rt Γ Γl (C.xc.A H fs.flatten) D r2, fun σ2 H2 w => ⟨m, Nat.lt_succ_self m, w⟩, fs', env', so1, ?_⟩
          dsimp only at hm
          cases eb : Pv.exec C.S env' b with
          | nx e =>
            rw [eb] at hm
            intro σ3 H3 fs3 so3 s3
            have ee : ends b = true := by
              cases hh : ends b with
              | true => rfl
              | false => exact absurd eb (ends_nx hh)
            rw [ho ee] at so3
            exact ⟨fs3, e, r, so3, sA1.trans s3, hm, pr⟩
          | ct e =>
            rw [eb] at hm
            exact fun σ3 H3 fs3 so3 s3 => ⟨fs3, e, r, so3, sA1.trans s3, hm, pr⟩
          | bk e =>
            rw [eb] at hm
            cases hm
            exact fun σ3 H3 fs3 so3 s3 => pr _ _ _ so3 (sA1.trans s3)
          | rt d e => rw [eb] at hm; cases hm; exact pr
          | ex k es => rw [eb] at hm; cases hm; exact pr
          | bad => rw [eb] at hm; cases hm; exact pr
        | false =>
          show (if false = true then _ else _)
          rw [if_neg Bool.false_ne_true]
          cases hm
          exact pr _ _ _ so1 sA1
      | _ => cases hm; exact pr.elim
def N1 (G : Gt) (N : List Str) (sc : Scope) (fb : Str → Bool) (rt : Rt) (Γl Γ : List OT) (e : IS) (x : Stmt) : Prop := ∀ {C : Ct} {X : Cx}, SF G C N sc fb X → (rt.lt.isSome = true → C.xc.v0.isSome = true) → chkS G N sc fb rt Γl Γ e x = true → PS X x (rS C rt Γl Γ e)
def N2 (G : Gt) (N : List Str) (sc : Scope) (fb : Str → Bool) (rt : Rt) (Γl Γ : List OT) (e : IS) (x : List Stmt) : Prop := ∀ {C : Ct} {X : Cx}, SF G C N sc fb X → (rt.lt.isSome = true → C.xc.v0.isSome = true) → chkB G N sc fb rt Γl Γ e x = true → PSs X x (rS C rt Γl Γ e)
/-- a statement of its own is sound -/
def SopOk : Prop := ∀ {G : Gt} {N : List Str} {sc : Scope} {fb : Str → Bool} {rt : Rt} {Γl Γ : List OT} {o : SOp} {as : IE} {x : Stmt} {es : List Expr} {C : Ct} {X : Cx}, matS G N sc Γ o as x = some es → SF G C N sc fb X → okE Γ as = true → chkA G N sc as es = true → PS X x (rS C rt Γl Γ (.x o as))
theorem snd_s (xok : XopOk) (sok : SopOk) (G : Gt) (N : List Str) (sc : Scope) (fb : Str → Bool) (rt : Rt) : (∀ Γl Γ e x, N1 G N sc fb rt Γl Γ e x) ∧ (∀ Γl Γ e x, N2 G N sc fb rt Γl Γ e x) := by
  apply chkS.mutual_induct (motive_1 := N1 G N sc fb rt) (motive_2 := N2 G N sc fb rt)
  case case1 => intro Γl Γ i t e x p v pos C X F hv h; exact snd_set xok F h
  case case2 => intro Γl Γ t e es k p v pos C X F hv h; exact snd_asg xok F h
  case case3 => intro Γl Γ i k e x p y p2 v p3 C X F hv h; exact snd_sub xok F h
  case case4 => intro Γl Γ i e x p a ap v cp p2 C X F hv h; exact snd_app xok F h
  case case5 =>
    intro Γl Γ p C X F hv h
    exact PS.imp ps_pass fun D σ H ⟨fs, env, so, pf⟩ => pf _ _ _ so (Same.refl _)
  case case6 =>
    intro Γl Γ s k p p2 C X F hv h
    exact PS.imp ps_doc fun D σ H ⟨fs, env, so, pf⟩ => pf _ _ _ so (Same.refl _)
  case case7 =>
    intro Γl Γ e v pos C X F hv h
    simp only [chkS, Bool.and_eq_true] at h
    refine PS.imp (ps_ret (snd_rR xok F.xf hv h.1 h.2)) fun D σ H ⟨fs, env, so, pf⟩ => ?_
    exact ⟨fs, env, so, Pst.fl pf⟩
  case case8 =>
    intro Γl Γ pos C X F hv h
    refine PS.imp ps_retN fun D σ H ⟨fs, env, so, pf⟩ => ?_
    obtain ⟨ty, lt⟩ := rt
    simp only [chkS, Bool.and_eq_true] at h
    obtain ⟨h1, h2⟩ := h
    have h1 := OT.isFz_of h1
    subst h1
    cases lt with
    | none => exact pf _ _ so.sm ⟨[], List.nodup_nil, (fun a h => by cases h), .fz .non⟩
    | some t =>
      obtain ⟨h3, h4⟩ := and2 h2
      obtain ⟨v0, e0⟩ := Option.isSome_iff_exists.mp (hv rfl)
      have h3 := OT.beq_of h3
      obtain ⟨d0, hd⟩ := so.lent0 e0 (by rw [h3]; exact h4)
      exact pf _ _ so.sm (so.rl e0 h3 h4 hd .non)
  case case9 =>
    intro Γl Γ pos C X F hv h
    have h := OT.beqA_of h
    subst h
    exact PS.imp ps_break fun D σ H ⟨fs, env, so, pf⟩ => pf _ _ _ so (Same.refl _)
  case case10 =>
    intro Γl Γ pos C X F hv h
    have h := OT.beqA_of h
    subst h
    exact PS.imp ps_continue fun D σ H ⟨fs, env, so, pf⟩ => pf _ _ _ so (Same.refl _)
  case case11 =>
    intro Γl Γ c a b z xs ys pos iha ihb C X F hv h
    simp only [chkS, Bool.and_eq_true, Bool.or_eq_true, Bool.not_eq_true'] at h
    obtain ⟨⟨⟨⟨h1, h2⟩, h3⟩, h4⟩, h5⟩ := h
    refine snd_iteS (snd_e xok F.xf h1 h2).2 (iha F hv h3) (ihb F hv h4) ?_
    rcases h5 with (h | h) | h
    · exact .inl h
    · exact .inr (.inl h)
    · exact .inr (.inr (OT.beqA_of h))
  case case12 =>
    intro Γl Γ t it b tg iter xs pos ihb C X F hv h
    simp only [chkS, Bool.and_eq_true, Bool.or_eq_true, Bool.not_eq_true'] at h
    obtain ⟨⟨⟨⟨⟨⟨⟨h0, h1⟩, h2⟩, h3⟩, h4⟩, h5⟩, h6⟩, h7⟩ := h
    refine snd_forS (F.xf.calm h0) F (snd_i xok F.xf h1 h3) (sndG (F.xf.calm h0) F.xf F.fn t tg h4) (ihb F hv h6) (fold_ok h2) (fun i hi => List.all_eq_true.mp h5 i hi) fun e => ?_
    rcases h7 with h | h
    · rw [e] at h; cases h
    · exact OT.beqA_of h
  case case13 =>
    intro Γl Γ c b z xs pos ihb C X F hv h
    simp only [chkS, Bool.and_eq_true, Bool.or_eq_true, Bool.not_eq_true'] at h
    obtain ⟨⟨⟨h1, h2⟩, h3⟩, h4⟩ := h
    refine snd_whlS F (snd_e xok F.xf h1 h2).2 (ihb F hv h3) fun e => ?_
    rcases h4 with h | h
    · rw [e] at h; cases h
    · exact OT.beqA_of h
  case case14 =>
    intro Γl Γ e v pos C X F hv h
    simp only [chkS, Bool.and_eq_true] at h
    obtain ⟨⟨h1, h2⟩, h3⟩ := h
    refine PS.imp (ps_expr (snd_e xok F.xf h2 h3).1 (by cases v <;> first | rfl | cases h1)) fun D σ H ⟨fs, env, so, pf⟩ => ?_
    have pf' := Pst.fl (C := C) pf
    exact ⟨C.xc, fs, env, so, so.sm, pf'.imp fun d k v H1 s1 r1 => k _ _ _ (so.mono s1) (Cfg.A_mono s1)⟩
  case case15 =>
    intro Γl Γ x C X F hv h
    exact PS.imp ps_never fun D σ H ⟨fs, env, so, pf⟩ => pf
  case case16 =>
    intro Γl Γ o as x es hm C X F hv h
    have q : (match matS G N sc Γ o as x with | some es => okE Γ as && chkA G N sc as es | none => false) = true := h
    rw [hm] at q
    obtain ⟨q1, q2⟩ := and2 q
    exact sok hm F q1 q2
  case case17 =>
    intro Γl Γ o as x hm C X F hv h
    have q : (match matS G N sc Γ o as x with | some es => okE Γ as && chkA G N sc as es | none => false) = true := h
    rw [hm] at q
    cases q
  case case18 =>
    intro t Γl x x1
    unfold N1
    intros
    rename_i h
    rw [chkS] at h
    · cases h
    all_goals assumption
  case case19 =>
    intro Γl Γ C X F hv h
    exact PSs.imp pss_nil fun D σ H ⟨fs, env, so, pf⟩ => pf _ _ _ so (Same.refl _)
  case case20 =>
    intro Γl Γ i b xs ih C X F hv h
    rw [chkB] at h
    refine PSs.imp (ih F hv h) fun D σ H ⟨fs, env, so, pf⟩ => ?_
    obtain ⟨so', s'⟩ := so.freeze i
    exact ⟨_, env, so', PF.mono pf s'⟩
  case case21 =>
    intro Γl Γ a b x xs hf iha ihb C X F hv h
    rw [chkB] at h
    · obtain ⟨h1, h2⟩ := and2 h
      refine PSs.imp (pss_cons (iha F hv h1) (ihb F hv h2)) fun D σ H ⟨fs, env, so, pf⟩ => ?_
      refine ⟨fs, env, so, ?_⟩
      have pf : PF C rt (out (out Γ a) b) Γl (C.xc.A H fs.flatten) D ((exec C.S env a).andThen fun e => exec C.S e b) := pf
      cases ea : exec C.S env a with
      | nx e =>
        rw [ea] at pf
        exact fun σ' H' fs' so' s' => ⟨fs', e, so', PF.mono pf s'⟩
      | _ => rw [ea] at pf; exact pf
    · exact hf
  case case22 =>
    intro t Γl x x1
    unfold N2
    intros
    rename_i h
    rw [chkB] at h
    · cases h
    all_goals assumption
end
end Pv

/-! math.lcm of two ints. -/
namespace Pv
open PySem PySem.Spec PyProof.Rows L2
variable [TabC]
def rLcm : List V → Hp → VK → Prop := fun vs H Q => ∃ a b : Int, vs = [.int a, .int b] ∧ a.natAbs < 2 ^ 9000 ∧ b.natAbs < 2 ^ 9000 ∧ Q (.int ((Nat.lcm a.natAbs b.natAbs : Nat) : Int)) H
theorem lg {n k : Nat} (h : n < 2 ^ k) : n.log2 ≤ k := by
  by_cases e : n = 0
  · subst e; simp
  · exact Nat.le_of_lt ((Nat.log2_lt e).mpr h)
theorem cr_lcm {X : Cx} : CallR X (.builtin "math.lcm") rLcm := by
  intro pins s σ H vs us Q I r h
  obtain ⟨a, b, rfl, ha, hb, q⟩ := h
  obtain ⟨t, u, rfl⟩ := Vals.int2 r
  have e : (Nat.lcm 1 a.natAbs).lcm b.natAbs = Nat.lcm a.natAbs b.natAbs := by rw [Nat.lcm_one_left]
  have h2 : (2 : Nat) ≤ 2 ^ 9000 := Nat.le_self_pow (by decide) 2
  have l1 := lg (n := max 1 a.natAbs) (k := 9000) (by omega)
  have l2 := lg (n := max a.natAbs b.natAbs) (k := 9000) (by omega)
  have z : Nat.lcm a.natAbs b.natAbs < 2 ^ 18000 := by
    refine Nat.lt_of_le_of_lt (Nat.div_le_self _ _) ?_
    rw [show (18000 : Nat) = 9000 + 9000 by rfl, Nat.pow_add]
    exact Nat.mul_lt_mul'' ha hb
  have l3 := lg z
  have g := PySem.W.mg_run_lcm a t b u (by omega) (by omega) (by
    rw [e, Int.natAbs_natCast]
    exact Nat.lt_of_le_of_lt l3 (by unfold bitsLine; decide))
  rw [e] at g
  exact call_function_meets PySem.W.MGF.kind_lcm PySem.W.MGF.plain_lcm PySem.W.MGF.entry_lcm (PySem.W.MGF.args_lcm _ _) g.meets ⟨.int _, H, I.tok _, ⟨_, rfl⟩, q⟩
end Pv

/-! Pv, part Xo: operations of their own: fields, properties, methods, makers, calls with keywords, own containers. -/
namespace Pv
open PySem PySem.Spec PyProof.Rows L2
variable [TabC]
section
variable {G : Gt} {C : Ct} {N : List Str} {sc : Scope} {X : Cx} {Γ : List OT}
/-- behind the arguments -/
def Aft (C : Ct) (Γ : List OT) (o : XOp) (t : OT) (Q : VK) (vs : List V) (ds : List D) (H2 : Hp) : Prop := ∃ c fs env σ, SO C.T c Γ fs H2 σ env ∧ C.xc.Sm H2 ∧ RepA C.T (c.A H2 fs.flatten) vs ds ∧
  Pst C.EX (fun d => ∀ v H', Ev H2 H' → RO C.T c t fs.flatten H2 H' v d → Q v H') (xopD C.S o ds)
theorem ev_x {S : Sem1} {env : Env} {o : XOp} {as : IE} (h : ∀ a r, as = .cons a r → preX o (ev S env a) (argD (ev S env as) (xopD S o)) = argD (ev S env as) (xopD S o)) : ev S env (.x o as) = argD (ev S env as) (xopD S o) := by
  cases as with
  | cons a r => exact h a r rfl
  | _ => rfl
/-- the operation looks at nothing ahead -/
def XOp.late : XOp → Bool
  | .mth _ _ | .obc _ | .lidx | .lcnt => false
  | _ => true
theorem pre_late {o : XOp} (h : o.late = true) (r k : R) : preX o r k = k := by
  cases o <;> first | rfl | cases h
theorem aft_all {o : XOp} {as : IE} {ts : List OT} {t : OT} (hl : o.late = true) (σ : L2.St) (H : Hp) (Q : VK) (h : rE C Γ t (.x o as) σ H Q) : rA C Γ ts as σ H fun vs H2 => ∃ ds, Aft C Γ o t Q vs ds H2 := by
  obtain ⟨c, fs, env, so, sm, p⟩ := h
  rw [ev_x fun a r _ => pre_late hl _ _] at p
  refine ⟨c, fs, env, so, sm, (Pst.arg p).imp fun d k ds vs H1 e s1 r1 => ?_⟩
  subst e
  obtain ⟨ds', e, q⟩ := k
  cases e
  exact ⟨ds, c, fs, env, σ, so.mono s1, sm.mono s1, r1.rep so, q.imp fun d k v H' s' r' => k v H' (s1.trans s') (r'.same s1)⟩
theorem aft_one {o : XOp} {a : IE} {ta t : OT} (hl : o.late = true) (σ : L2.St) (H : Hp) (Q : VK) (h : rE C Γ t (.x o (.cons a .nil)) σ H Q) : rE C Γ ta a σ H fun v H2 => ∃ d, Aft C Γ o t Q [v] [d] H2 := by
  obtain ⟨c, fs, env, so, sm, p⟩ := h
  rw [ev_x fun a r _ => pre_late hl _ _] at p
  refine ⟨c, fs, env, so, sm, (Pst.one p).imp fun d k v H1 s1 r1 => ?_⟩
  exact ⟨d, c, fs, env, σ, so.mono s1, sm.mono s1, .cons (r1.rep so) .nil, Pst.imp k fun d k v H' s' r' => k v H' (s1.trans s') (r'.same s1)⟩
/-- the first argument, then the others, within the call's reading -/
theorem aft_cons {o : XOp} {as : IE} {ta t : OT} {ts : List OT} {c : Cfg} {fs : List (List Addr)} {env : Env} {σ : L2.St} {H : Hp} {Q : VK} {d : D} {v : V} {H1 : Hp} (so : SO C.T c Γ fs H σ env) (sm : C.xc.Sm H) (s1 : Ev H H1) (r1 : RO C.T c ta fs.flatten H H1 v d)
    (p : Pst C.EX (fun d => ∀ v H', Ev H H' → RO C.T c t fs.flatten H H' v d → Q v H') (argD (consD (.ok d) (ev C.S env as)) (xopD C.S o))) : rA C Γ ts as σ H1 fun vs H2 => ∃ ds, Aft C Γ o t Q (v :: vs) (d :: ds) H2 := by
  have p' : Pst C.EX (fun x => ∃ ds, x = .tup ds ∧ Pst C.EX (fun d => ∀ v H', Ev H H' → RO C.T c t fs.flatten H H' v d → Q v H') (xopD C.S o (d :: ds))) (ev C.S env as) := by
    cases e : ev C.S env as with
    | ok x =>
      rw [e] at p
      cases x with
      | tup ds => exact ⟨ds, rfl, p⟩
      | _ => exact p.elim
    | ex k es => rw [e] at p; exact p
    | bad => rw [e] at p; exact p
  refine ⟨c, fs, env, so.mono s1, sm.mono s1, p'.imp fun x k ds vs H2 e s2 r2 => ?_⟩
  subst e
  obtain ⟨ds', e, q⟩ := k
  cases e
  have s12 := s1.trans s2
  exact ⟨ds, c, fs, env, σ, so.mono s12, sm.mono s12, .cons ((r1.rep so).mono (Cfg.A_mono s2)) (r2.rep (so.mono s1)), q.imp fun d k v H' s' r' => k v H' (s12.trans s') (r'.same s12)⟩
theorem lkp_of : ∀ {T : Tb} {A : Hp} {fs : List (Str × V)} {ds : List D} {f : Str} {d : D}, RepA T A (fs.map (·.2)) ds → lkp f (fs.map (·.1)) ds = some d → ∃ v, fs.lookup f = some v ∧ Rep T A v d
  | T, A, [], ds, f, d, r, h => by
    cases r
    cases h
  | T, A, (n, u) :: fs, ds, f, d, r, h => by
    cases r with
    | cons r1 r2 =>
      have h : (if n = f then some _ else lkp f (fs.map (·.1)) _) = some d := h
      rw [List.lookup_cons]
      by_cases e : n = f
      · subst e
        rw [if_pos rfl] at h
        cases h
        exact ⟨u, by simp, r1⟩
      · rw [if_neg e] at h
        obtain ⟨v, h1, h2⟩ := lkp_of r2 h
        exact ⟨v, by rw [show (f == n) = false by simp [Ne.symm e]]; exact h1, h2⟩
theorem lookup_no : ∀ {fs : List (Str × V)} {m : Str}, (fs.map (·.1)).contains m = false → fs.lookup m = none
  | [], _, _ => rfl
  | (n, u) :: fs, m, h => by
    rw [List.map_cons, List.contains_cons, Bool.or_eq_false_iff] at h
    rw [List.lookup_cons, h.1]
    exact lookup_no h.2
theorem attrB {e : Expr} {f : Str} {env : PySem.Env} {w : Sem Value} (h : noSup e = true) : attributeBase e f env w = w := by
  cases e <;> first | rfl | cases h
theorem pairB_of {l : List (Str × Str)} {c f : Str} (h : pairB l c f = true) : (c, f) ∈ l := by
  unfold pairB at h
  rw [List.any_eq_true] at h
  obtain ⟨⟨a, b⟩, hm, e⟩ := h
  simp only [Bool.and_eq_true, decide_eq_true_eq] at e
  rw [← e.1, ← e.2]
  exact hm
theorem trpB_of {l : List (Str × Str × Nat)} {c f : Str} {j : Nat} (h : trpB l c f j = true) : (c, f, j) ∈ l := by
  unfold trpB at h
  rw [List.any_eq_true] at h
  obtain ⟨⟨a, b, k⟩, hm, e⟩ := h
  simp only [Bool.and_eq_true, decide_eq_true_eq] at e
  rw [← e.1.1, ← e.1.2, ← e.2]
  exact hm
theorem mkB_of {l : List (Str × Nat)} {c : Str} {j : Nat} (h : mkB l c j = true) : (c, j) ∈ l := by
  unfold mkB at h
  rw [List.any_eq_true] at h
  obtain ⟨⟨a, k⟩, hm, e⟩ := h
  simp only [Bool.and_eq_true, decide_eq_true_eq] at e
  rw [← e.1, ← e.2]
  exact hm
theorem shB_of {l : List (Nat × Nat × List Str × List D)} {j n : Nat} {ks : List Str} {ds : List D} (h : shB l j n ks ds = true) : (j, n, ks, ds) ∈ l := by
  unfold shB at h
  rw [List.any_eq_true] at h
  obtain ⟨⟨a, b, k, e'⟩, hm, e⟩ := h
  simp only [Bool.and_eq_true, decide_eq_true_eq] at e
  have := D.beqA_of e.2
  rw [← e.1.1.1, ← e.1.1.2, ← e.1.2, ← this]
  exact hm
theorem lookup_mem' : ∀ {js : List (Str × Nat)} {c : Str} {j : Nat}, js.lookup c = some j → (c, j) ∈ js
  | [], _, _, h => by cases h
  | (a, b) :: js, c, j, h => by
    rw [List.lookup_cons] at h
    by_cases e : (c == a) = true
    · rw [e] at h
      cases h
      rw [beq_iff_eq] at e
      rw [e]
      exact List.mem_cons_self
    · rw [show (c == a) = false by simpa using e] at h
      exact List.mem_cons_of_mem _ (lookup_mem' h)
/-! ### fields -/
theorem snd_fld (F : XF G C N sc X) {f : Str} {cs : List Str} {e : Expr} {pos : Pos} {a : IE} {ta : OT} (hs : noSup e = true) (hc : ∀ c ∈ cs, (c, f) ∈ G.na) (ha : PE X e (rE C Γ ta a)) : PE X (.Attribute e f pos) (rE C Γ .fz (.x (.fld f cs) (.cons a .nil))) := by
  refine PE.imp (pe_fld ha (attrB hs)) fun σ H Q h => ?_
  obtain ⟨c, fs, env, so, sm, p⟩ := aft_one (ta := ta) rfl σ H Q h
  refine ⟨c, fs, env, so, sm, p.imp fun d k v H1 s1 r1 => ?_⟩
  obtain ⟨d0, c, fs, env, σ, so, sm, ra, q⟩ := k v H1 s1 r1
  cases ra with
  | cons r rn =>
    cases rn
    cases r with
    | @obj a C' dx fl cn ns ds h1 h2 h3 h4 =>
      have q : Pst C.EX _ (if cs.contains cn then optR (lkp f ns ds) else .bad) := q
      split at q
      · rename_i hm
        obtain ⟨C2, e1, k1, k2⟩ := F.ff.na (cn, f) (hc cn (by simpa using hm))
        rw [h2] at e1
        cases e1
        cases e : lkp f ns ds with
        | none => rw [e] at q; exact q.elim
        | some d =>
          rw [e] at q
          rw [← h3] at e
          obtain ⟨v, l1, l2⟩ := lkp_of h4 e
          exact ⟨a, C', dx, fl, v, rfl, (msk_some.mp h1).2, by rw [F.K]; exact k1, by rw [F.K]; exact k2, l1, q _ _ (Ev.refl _) (.of_rep l2)⟩
      · exact q.elim
    | _ => exact q.elim
theorem obj_of {T : Tb} {A : Hp} {v : V} {cn : Str} {ns : List Str} {ds : List D} (r : Rep T A v (.obj cn ns ds)) : ∃ a C dx fl, v = .ref a ∧ A a = some (.ins C dx fl) ∧ T.cls cn = some C ∧ fl.map (·.1) = ns ∧ RepA T A (fl.map (·.2)) ds := by
  cases r with
  | obj h1 h2 h3 h4 => exact ⟨_, _, _, _, rfl, h1, h2, h3, h4⟩
/-! ### dispatch by class -/
/-- a promise's reading, from what is left of an operation's -/
theorem sp_aft (F : XF G C N sc X) {t : OT} {j n : Nat} {c : Cfg} {fs : List (List Addr)} {H2 : Hp} {σ : L2.St} {env : Env} {vs : List V} {ds : List D} {Q : VK} (hlt : (G.lt[j]?).getD none = none) (hrt : t = (G.rt[j]?).getD .fz ∨ t = .fz) (len : ∀ ds, C.S j ds ≠ .bad → ds.length = n)
    (so : SO C.T c Γ fs H2 σ env) (sm : C.xc.Sm H2) (ra : RepA C.T (c.A H2 fs.flatten) vs ds) (q : Pst C.EX (fun d => ∀ v H', Ev H2 H' → RO C.T c t fs.flatten H2 H' v d → Q v H') (C.S j ds)) : spJ G C.T C.S n j vs H2 Q (EXK C) := by
  unfold spJ
  rw [hlt]
  refine sp_met0 (F.tabs sm) so sm (Ev.refl _) ra (by rw [ra.length]; exact len ds fun e => by rw [e] at q; exact q) (q.imp fun d k v H' s r => k v H' s ?_)
  rcases hrt with e | e
  · rw [e]; exact r
  · rw [e]; exact r.fz so
theorem snd_prp (F : XF G C N sc X) (hcm : G.cm = true) {f : Str} {js : List (Str × Nat)} {e : Expr} {pos : Pos} {a : IE} {ta : OT} (hne : js ≠ []) (hs : noSup e = true) (hc : ∀ p ∈ js, G.pl.contains p.2 = true ∧ p.2 + 1 < G.lv ∧ (p.1, f, p.2) ∈ G.pr) (ha : PE X e (rE C Γ ta a)) :
    PE X (.Attribute e f pos) (rE C Γ .fz (.x (.prp f js) (.cons a .nil))) := by
  have pas : ∀ {E : XK}, (∀ cl dx H, ¬ E cl dx H) → Passes (L2.CX X.prog X.w) X.nox E := fun hE _ _ _ _ _ _ _ z => by
    obtain ⟨_, _, _, _, _, _, _, _, _, _, _, _, z⟩ := z
    exact (hE _ _ _ z).elim
  refine ⟨fun pins s σ H Q I h => ?_⟩
  have rule : ∀ c j, (c, j) ∈ js → ∃ C' n, C.T.cls c = some C' ∧ (G.lt[j]?).getD none = none ∧ ((G.rt[j]?).getD .fz) = .fz ∧ (∀ ds, C.S j ds ≠ .bad → ds.length = n) ∧ PE X (.Attribute e f pos) (tProp C' (spJ G C.T C.S n j) [] (fun _ _ _ => False) (rE C Γ ta a)) := fun c j hm => by
    obtain ⟨hpl, h1, h2⟩ := hc _ hm
    obtain ⟨C', p, g, fd, ps, k1, k2, k3, k5, k6, k7⟩ := F.ff.pr _ h2 (by show j < G.lv; exact Nat.lt_of_succ_lt h1)
    have k4 := k5.bd hpl
    have FO := k5.ok
    rw [← F.K] at k2 k3 k4 FO
    exact ⟨C', ps.length, k1, k6, k7, k5.len, pe_prop ha k2 k3 FO ((F.rm hcm).mono (by show j + 1 + 1 ≤ G.lv; exact h1)) k4 .nil (pas fun _ _ _ z => z) (attrB hs)⟩
  obtain ⟨c, fs, env, so, sm, p⟩ := h
  have p : Pst C.EX (fun d => ∀ v H', Ev H H' → RO C.T c .fz fs.flatten H H' v d → Q v H') (argD (consD (ev C.S env a) (.ok (.tup []))) (xopD C.S (.prp f js))) := p
  cases e1 : ev C.S env a with
  | bad => rw [e1] at p; exact p.elim
  | ex k es =>
    rw [e1] at p
    obtain ⟨⟨c0, j0⟩, hc0⟩ := List.exists_mem_of_ne_nil js hne
    obtain ⟨C', n, k1, k6, k7, klen, pe⟩ := rule c0 j0 hc0
    exact pe.run pins s σ H Q I ⟨c, fs, env, so, sm, by rw [e1]; exact p⟩
  | ok d =>
    rw [e1] at p
    have p : Pst C.EX (fun d => ∀ v H', Ev H H' → RO C.T c .fz fs.flatten H H' v d → Q v H') (xopD C.S (.prp f js) [d]) := p
    cases d with
    | obj cn ns ds =>
      have p : Pst C.EX (fun d => ∀ v H', Ev H H' → RO C.T c .fz fs.flatten H H' v d → Q v H') (optJ (js.lookup cn) fun j => noX (C.S j [.obj cn ns ds])) := p
      cases e2 : js.lookup cn with
      | none => rw [e2] at p; exact p.elim
      | some j =>
        rw [e2] at p
        have p : Pst C.EX (fun d => ∀ v H', Ev H H' → RO C.T c .fz fs.flatten H H' v d → Q v H') (noX (C.S j [.obj cn ns ds])) := p
        obtain ⟨C', n, k1, k6, k7, klen, pe⟩ := rule cn j (lookup_mem' e2)
        refine pe.run pins s σ H Q I ⟨c, fs, env, so, sm, ?_⟩
        rw [e1]
        intro v H1 s1 r1
        have rp := r1.rep so
        obtain ⟨a2, C2, dx, fl, rfl, g1, g2, g3, g4⟩ := obj_of rp
        rw [k1] at g2
        cases g2
        refine ⟨a2, dx, fl, rfl, (msk_some.mp g1).2, ?_⟩
        unfold spJ
        rw [k6, k7]
        have so1 := so.mono s1
        refine ⟨fun a => c.U a ∨ a ∈ fs.flatten, [.obj cn ns ds], fun a u => u.elim (so1.dm a) (so1.dom a), .cons rp .nil, ?_, F.tabs (sm.mono s1), ?_⟩
        · exact klen [.obj cn ns ds] fun e => by rw [e] at p; exact p
        · cases e : C.S j [.obj cn ns ds] with
          | ok d =>
            rw [e] at p
            refine fun v H2 f s2 nf nw o => p v H2 (s1.trans s2) ⟨f, nf, fun a ha => s1.free (nw a ha), o.mono (msk_mono (Same.refl _) fun a z => .inl ?_) fun a _ o _ h => h⟩
            rcases z with z | z
            · exact .inl (.inl z)
            · exact (List.mem_append.mp z).elim (fun z => .inl (.inr z)) .inr
          | ex k es => rw [e] at p; exact p.elim
          | bad => rw [e] at p; exact p.elim
    | _ => exact p.elim
/-! ### methods -/
theorem few_plain {es : List Expr} {pos : Pos} {env : PySem.Env} {n : Nat} (hp : es.all plainX = true) (hn : n < 29) : methodCallForm n (backTo pos (starEach es env)) (backToKw pos (keywordEach [] env)) = true := by
  have h1 : (backTo pos (starEach es env)).any (·.1) = false := back_plain hp
  have h2 : ((backTo pos (starEach es env)).all fun x => !x.1) = true := by
    rw [List.all_eq_true]
    intro x hx
    rw [List.any_eq_false] at h1
    simpa using h1 x hx
  unfold methodCallForm
  rw [h2]
  simp [backToKw, keywordEach]
  omega
theorem meth_ev {o : Expr} {m : Str} {apos pos : Pos} {es : List Expr} {env : PySem.Env} (hs : noSup o = true) (hp : es.all plainX = true) (hn : es.length < 29) (hl : (apos.endLine == pos.line) = true) :
    eval (.Call (.Attribute o m apos) es [] pos) env = (do
      let ov ← eval o env
      standAt apos.atName
      let (f, first) ← holding [ov] (getMethod ov m (plainOf o env))
      callWith pos f first (backTo pos (starEach es env)) (backToKw pos (keywordEach [] env))) := by
  show (do
    let ov ← attributeBase o m env (eval o env)
    standAt apos.atName
    methodCall o m apos pos env ov (es.length + ([] : List Keyword).length) (backTo pos (starEach es env)) (backToKw pos (keywordEach [] env))) = _
  rw [attrB hs]
  have e : ∀ ov, methodCall o m apos pos env ov (es.length + ([] : List Keyword).length) (backTo pos (starEach es env)) (backToKw pos (keywordEach [] env)) = (do
      let (f, first) ← holding [ov] (getMethod ov m (plainOf o env))
      callWith pos f first (backTo pos (starEach es env)) (backToKw pos (keywordEach [] env))) := fun ov => mcall_line (few_plain hp (by simpa using hn)) hl
  simp only [e]
theorem rA_imp {ts : List OT} {as : IE} {σ : L2.St} {H : Hp} {Q Q' : List V → Hp → Prop} (h : rA C Γ ts as σ H Q) (i : ∀ vs H', Q vs H' → Q' vs H') : rA C Γ ts as σ H Q' := by
  obtain ⟨c, fs, env, so, sm, p⟩ := h
  exact ⟨c, fs, env, so, sm, p.imp fun d k ds vs H1 e s1 r1 => i _ _ (k ds vs H1 e s1 r1)⟩
theorem rA_nil {σ : L2.St} {H : Hp} {Q : List V → Hp → Prop} (h : rA C Γ [] .nil σ H Q) : Q [] H := by
  obtain ⟨c, fs, env, so, sm, p⟩ := h
  exact p [] [] H rfl (Ev.refl H) ⟨[], List.nodup_nil, (fun a h => by cases h), .nil⟩
theorem chkA_nil {as : IE} (h : chkA G N sc as [] = true) : as = .nil := by
  cases as <;> first | rfl | simp [chkA] at h
theorem snd_mth (F : XF G C N sc X) (hcm : G.cm = true) {m : Str} {js : List (Str × Nat)} {o : Expr} {es : List Expr} {apos pos : Pos} {a as : IE} {ta : OT} (hne : js ≠ []) (hs : noSup o = true) (hl : (apos.endLine == pos.line) = true) (hn : es.length < 29)
    (hA : chkA G N sc as es = true) (hc : ∀ p ∈ js, G.pl.contains p.2 = true ∧ p.2 < G.lv ∧ (p.1, m, p.2) ∈ G.me) (ho : PE X o (rE C Γ ta a)) (ha : PA X es (rA C Γ (tyL G Γ as) as)) : PE X (.Call (.Attribute o m apos) es [] pos) (rE C Γ .fz (.x (.mth m js) (.cons a as))) := by
  refine ⟨fun pins s σ H Q I h => ?_⟩
  have hp := chkA_plain hA
  have rule : ∀ c j, (c, j) ∈ js → ∃ C' n, C.T.cls c = some C' ∧ (G.lt[j]?).getD none = none ∧ (∀ ds, C.S j ds ≠ .bad → ds.length = n) ∧ PE X (.Call (.Attribute o m apos) es [] pos) (tMeth C' m (spJ G C.T C.S n j) [] (EXK C) (rE C Γ ta a) (rA C Γ (tyL G Γ as) as)) := fun c j hm => by
    obtain ⟨hpl, h1, h2⟩ := hc _ hm
    obtain ⟨C', g, fd, ps, k1, k2, k3, _, k5, k6⟩ := F.ff.me _ h2 h1
    have k4 := k5.bd hpl
    have FO := k5.ok
    rw [← F.K] at k2 k3 k4 FO
    have hr : Room (j + 1) X.A := (F.rm hcm).mono (by show j + 1 ≤ G.lv; exact h1)
    refine ⟨C', ps.length, k1, k6, k5.len, ?_⟩
    cases es with
    | nil =>
      have ea := chkA_nil hA
      subst ea
      refine PE.imp (pe_meth0 ho k2 k3 FO hr k4 .nil F.hx (meth_ev hs rfl hn hl)) fun σ H Q q => ?_
      obtain ⟨c, fs, env, so, sm, p⟩ := q
      refine ⟨c, fs, env, so, sm, p.imp fun d k v H1 s1 r1 => ?_⟩
      obtain ⟨a, dx, fl, g1, g2, g3, g4⟩ := k v H1 s1 r1
      exact ⟨a, dx, fl, g1, g2, g3, rA_nil g4⟩
    | cons e es =>
      obtain ⟨p1, p2⟩ := tail_plain hp
      exact pe_meth ho k2 k3 FO hr k4 .nil F.hx ha (star_plain p1 _ _) (back_plain p2) (meth_ev hs hp hn hl)
  obtain ⟨c, fs, env, so, sm, p⟩ := h
  have p : Pst C.EX (fun d => ∀ v H', Ev H H' → RO C.T c .fz fs.flatten H H' v d → Q v H') (preX (.mth m js) (ev C.S env a) (argD (consD (ev C.S env a) (ev C.S env as)) (xopD C.S (.mth m js)))) := p
  cases e1 : ev C.S env a with
  | bad =>
    rw [e1] at p
    cases e2 : ev C.S env as <;> (rw [e2] at p; exact p.elim)
  | ex k es' =>
    rw [e1] at p
    obtain ⟨⟨c0, j0⟩, hc0⟩ := List.exists_mem_of_ne_nil js hne
    obtain ⟨C', n, k1, k6, klen, pe⟩ := rule c0 j0 hc0
    refine pe.run pins s σ H Q I ⟨c, fs, env, so, sm, ?_⟩
    rw [e1]
    cases e2 : ev C.S env as <;> (rw [e2] at p; exact p)
  | ok d =>
    rw [e1] at p
    cases d with
    | obj cn ns ds =>
      have p : Pst C.EX (fun d => ∀ v H', Ev H H' → RO C.T c .fz fs.flatten H H' v d → Q v H') (if ((js.lookup cn).isSome && !ns.contains m) = true then argD (consD (.ok (.obj cn ns ds)) (ev C.S env as)) (xopD C.S (.mth m js)) else .bad) := p
      split at p
      · rename_i hcond
        obtain ⟨q1, q2⟩ := and2 hcond
        obtain ⟨j, e2⟩ := Option.isSome_iff_exists.mp q1
        have q2 : ns.contains m = false := by simpa using q2
        obtain ⟨C', n, k1, k6, klen, pe⟩ := rule cn j (lookup_mem' e2)
        refine pe.run pins s σ H Q I ⟨c, fs, env, so, sm, ?_⟩
        rw [e1]
        intro v H1 s1 r1
        obtain ⟨a2, C2, dx, fl, rfl, g1, g2, g3, g4⟩ := obj_of (r1.rep so)
        rw [k1] at g2
        cases g2
        refine ⟨a2, dx, fl, rfl, (msk_some.mp g1).2, lookup_no (by rw [g3]; exact q2), rA_imp (aft_cons so sm s1 r1 p) fun vs H2 ⟨ds2, c2, fs2, env2, σ2, so2, sm2, ra2, pp⟩ => ?_⟩
        rw [List.append_nil]
        have pp : Pst C.EX (fun d => ∀ v H', Ev H2 H' → RO C.T c2 .fz fs2.flatten H2 H' v d → Q v H') (if ns.contains m then .bad else optJ (js.lookup cn) fun j => C.S j (.obj cn ns ds :: ds2)) := pp
        rw [q2, e2] at pp
        exact sp_aft F k6 (.inr rfl) klen so2 sm2 ra2 pp
      · exact p.elim
    | _ => exact p.elim
/-! ### an instance called -/
theorem snd_obc (F : XF G C N sc X) (hcm : G.cm = true) {js : List (Str × Nat)} {fe e : Expr} {es : List Expr} {pos : Pos} {a as : IE} {ta : OT} (hne : js ≠ []) (hs : noAttr fe = true)
    (hA : chkA G N sc as (e :: es) = true) (hc : ∀ p ∈ js, G.pl.contains p.2 = true ∧ p.2 < G.lv ∧ (p.1, ("__call__" : Str), p.2) ∈ G.me) (ho : PE X fe (rE C Γ ta a)) (ha : PA X (e :: es) (rA C Γ (tyL G Γ as) as)) : PE X (.Call fe (e :: es) [] pos) (rE C Γ .fz (.x (.obc js) (.cons a as))) := by
  refine ⟨fun pins s σ H Q I h => ?_⟩
  have hp := chkA_plain hA
  obtain ⟨p1, p2⟩ := tail_plain hp
  have rule : ∀ c j, (c, j) ∈ js → ∃ C' n, C.T.cls c = some C' ∧ (G.lt[j]?).getD none = none ∧ (∀ ds, C.S j ds ≠ .bad → ds.length = n) ∧ PE X (.Call fe (e :: es) [] pos) (StX.tCallO X C' (fun vs H Q E => spJ G C.T C.S n j (vs ++ []) H Q E) (EXK C) (rE C Γ ta a) (rA C Γ (tyL G Γ as) as)) := fun c j hm => by
    obtain ⟨hpl, h1, h2⟩ := hc _ hm
    obtain ⟨C', g, fd, ps, k1, k2, k3, kf, k5, k6⟩ := F.ff.me _ h2 h1
    have k4 := k5.bd hpl
    have FO := k5.ok
    rw [← F.K] at k2 k3 k4 FO kf
    have hr : Room (j + 1) X.A := (F.rm hcm).mono (by show j + 1 ≤ G.lv; exact h1)
    exact ⟨C', ps.length, k1, k6, k5.len, StX.pe_callO ho ⟨k3.at_, k3.fn, kf⟩ (FO.raw k4 .nil) hr F.hx ha (by cases fe <;> first | rfl | cases hs) (star_plain p1 _ _) (back_plain p2)⟩
  obtain ⟨c, fs, env, so, sm, p⟩ := h
  have p : Pst C.EX (fun d => ∀ v H', Ev H H' → RO C.T c .fz fs.flatten H H' v d → Q v H') (preX (.obc js) (ev C.S env a) (argD (consD (ev C.S env a) (ev C.S env as)) (xopD C.S (.obc js)))) := p
  cases e1 : ev C.S env a with
  | bad =>
    rw [e1] at p
    cases e2 : ev C.S env as <;> (rw [e2] at p; exact p.elim)
  | ex k es' =>
    rw [e1] at p
    obtain ⟨⟨c0, j0⟩, hc0⟩ := List.exists_mem_of_ne_nil js hne
    obtain ⟨C', n, k1, k6, klen, pe⟩ := rule c0 j0 hc0
    refine pe.run pins s σ H Q I ⟨c, fs, env, so, sm, ?_⟩
    rw [e1]
    cases e2 : ev C.S env as <;> (rw [e2] at p; exact p)
  | ok d =>
    rw [e1] at p
    cases d with
    | obj cn ns ds =>
      have p : Pst C.EX (fun d => ∀ v H', Ev H H' → RO C.T c .fz fs.flatten H H' v d → Q v H') (if (js.lookup cn).isSome = true then argD (consD (.ok (.obj cn ns ds)) (ev C.S env as)) (xopD C.S (.obc js)) else .bad) := p
      split at p
      · rename_i q1
        obtain ⟨j, e2⟩ := Option.isSome_iff_exists.mp q1
        obtain ⟨C', n, k1, k6, klen, pe⟩ := rule cn j (lookup_mem' e2)
        refine pe.run pins s σ H Q I ⟨c, fs, env, so, sm, ?_⟩
        rw [e1]
        intro v H1 s1 r1
        obtain ⟨a2, C2, dx, fl, rfl, g1, g2, g3, g4⟩ := obj_of (r1.rep so)
        rw [k1] at g2
        cases g2
        refine ⟨a2, rfl, rA_imp (aft_cons so sm s1 r1 p) fun vs H2 ⟨ds2, c2, fs2, env2, σ2, so2, sm2, ra2, pp⟩ => ?_⟩
        cases ra2 with
        | cons r2 rr2 =>
          obtain ⟨a3, C3, dx3, fl3, e3, y1, y2, y3, y4⟩ := obj_of r2
          cases e3
          rw [k1] at y2
          cases y2
          refine ⟨.inr ⟨dx3, fl3, (msk_some.mp y1).2⟩, ?_⟩
          show spJ G C.T C.S n j ((V.ref a2 :: vs) ++ []) H2 Q (EXK C)
          rw [List.append_nil]
          have pp : Pst C.EX (fun d => ∀ v H', Ev H2 H' → RO C.T c2 .fz fs2.flatten H2 H' v d → Q v H') (optJ (js.lookup cn) fun j => C.S j (.obj cn ns ds :: ds2)) := pp
          rw [e2] at pp
          exact sp_aft F k6 (.inr rfl) klen so2 sm2 (.cons r2 rr2) pp
      · exact p.elim
    | _ => exact p.elim
end
end Pv

/-! Pv, part Xp: makers, calls with keywords. -/
namespace Pv
open PySem PySem.Spec PyProof.Rows L2
variable [TabC]
section
variable {G : Gt} {C : Ct} {N : List Str} {sc : Scope} {X : Cx} {Γ : List OT}
theorem EvL.ev {f0 : List Addr} {H H3 H' : Hp} (s : Ev H H3) (l : EvL f0 H3 H') (n : New H f0) : Ev H H' := by
  refine ⟨⟨fun {b o} h k => l.at_ (s.at_ h k) k fun z => ?_, fun {b ps} h => ?_⟩, fun h => l.ta (s.ta h)⟩
  · rw [n b z] at h; cases h
  · obtain ⟨ps', z⟩ := s.tb h
    exact l.tb z
/-- the promise of a maker's def is met at a new instance -/
theorem mk_sp (F : XF G C N sc X) {j n : Nat} {cn : Str} {C' x dx : Addr} {t : OT} {c : Cfg} {fs : List (List Addr)} {H2 : Hp} {σ : L2.St} {env : Env} {vs : List V} {ds : List D} {Q : VK} (hcl : C.T.cls cn = some C') (so : SO C.T c Γ fs H2 σ env) (sm : C.xc.Sm H2)
    (ra : RepA C.T (c.A H2 fs.flatten) vs ds) (hlt : (G.lt[j]?).getD none = some (.oi [] [], t)) (len : ∀ ds, C.S j ds ≠ .bad → ds.length = n) (nx : H2 x = none) (nd : H2 dx = none) (ne : dx ≠ x)
    (q : Pst C.EX (fun d => ∀ v H', Ev H2 H' → RO C.T c t fs.flatten H2 H' v d → Q v H') (mkO (C.S j (.obj cn [] [] :: ds)))) : spJ G C.T C.S n j (.ref x :: vs) (upd (upd H2 dx (.own x)) x (.ins C' dx [])) (fun v H3 => v = .non ∧ Q (.ref x) H3) (EXK C) := by
  have e1 : Ev H2 (upd H2 dx (.own x)) := same_upd nd
  have nx1 : upd H2 dx (.own x) x = none := by rw [upd_ne (Ne.symm ne)]; exact nx
  have e2 : Ev H2 (upd (upd H2 dx (.own x)) x (.ins C' dx [])) := e1.trans (same_upd nx1)
  generalize hH3 : upd (upd H2 dx (.own x)) x (.ins C' dx []) = H3 at e2
  have hx : H3 x = some (.ins C' dx []) := by rw [← hH3, upd_same]
  unfold spJ
  rw [hlt]
  have nf : New H2 [x] := fun a ha => by rw [List.mem_singleton] at ha; rw [ha]; exact nx
  have sA : Same (c.A H2 fs.flatten) (msk H3 fun a => (c.U a ∨ a ∈ fs.flatten) ∨ a ∈ [x]) := msk_mono e2.toSame fun a z => z.elim .inl fun z => .inr (nf a z)
  refine ⟨fun a => c.U a ∨ a ∈ fs.flatten, .ref x, vs, .obj cn [] [], ds, [x], rfl, fun a u => e2.some (u.elim (so.dm a) (so.dom a)), fun a ha u => ?_, by simp, .oi hx hcl rfl .nil, ra.mono sA, ?_, F.tabs (sm.mono e2), ?_⟩
  · exact u.elim (so.dm a) (so.dom a) (nf a ha)
  · have hb : C.S j (.obj cn [] [] :: ds) ≠ .bad := fun z => by rw [z] at q; exact q.elim
    have := len _ hb
    rw [List.length_cons] at this
    rw [ra.length]
    exact this
  · cases e : C.S j (.obj cn [] [] :: ds) with
    | bad => rw [e] at q; exact q.elim
    | ex k es =>
      rw [e] at q
      exact fun cl dx' H' l xr => ⟨k, es, xr.back fun d z => sm.nw d (z.elim (fun z => e2.free z) fun z => nf d z), sm.mono (l.ev e2 nf), q⟩
    | ok r =>
      rw [e] at q
      cases r with
      | tup l =>
        cases l with
        | nil => exact q.elim
        | cons d l =>
          cases l with
          | nil => cases d <;> exact q.elim
          | cons d1 l =>
            cases l with
            | cons _ _ => cases d <;> exact q.elim
            | nil =>
              cases d with
              | non =>
                have q : Pst C.EX (fun d => ∀ v H', Ev H2 H' → RO C.T c t fs.flatten H2 H' v d → Q v H') (.ok d1) := q
                intro v H' f1 l n1 w1 o1 rv
                have ev := l.ev e2 nf
                refine ⟨by cases rv; rfl, q _ _ ev ⟨f1, n1, fun a ha => (w1 a ha).elim e2.free (nf a), o1.mono (msk_mono (Same.refl _) fun a z => .inl ?_) fun a _ o _ h => h⟩⟩
                rcases z with z | z
                · exact .inl (.inl z)
                · exact (List.mem_append.mp z).elim (fun z => .inl (.inr z)) .inr
              | _ => exact q.elim
      | _ => exact q.elim
theorem tyX_lt {j : Nat} {t0 t : OT} (h : (G.lt[j]?).getD none = some (t0, t)) : (match (G.lt[j]?).getD none with | some (_, t) => t | none => OT.fz) = t := by rw [h]
theorem snd_mk (F : XF G C N sc X) (hcm : G.cm = true) {cn : Str} {j : Nat} {x : Str} {es : List Expr} {p pos : Pos} {as : IE} (hx : cn = x) (hg : glB sc x = true) (ok : okN x = true) (hpl : G.pl.contains j = true) (hj : j + 1 < G.lv) (hm : (cn, j) ∈ G.mkc) (hA : chkA G N sc as es = true) (ha : PA X es (rA C Γ (tyL G Γ as) as)) :
    PE X (.Call (.Name x p) es [] pos) (rE C Γ (tyX G (.mk cn j)) (.x (.mk cn j) as)) := by
  subst hx
  obtain ⟨o1, o2, o3⟩ := okN_of ok
  obtain ⟨C', f, fd, ps, t, k1, k2, k3, k5, k6⟩ := F.ff.mkc _ hm (Nat.lt_of_succ_lt hj)
  have k4 := k5.bd hpl
  have et : tyX G (.mk cn j) = t := tyX_lt k6
  have FO := k5.ok
  rw [← F.K] at k3 k4 FO
  have hr : Room (j + 1 + 1) X.A := (F.rm hcm).mono (by show j + 1 + 1 ≤ G.lv; exact hj)
  rw [et]
  have fin : ∀ σ H Q, rE C Γ t (.x (.mk cn j) as) σ H Q → rA C Γ (tyL G Γ as) as σ H fun vs H1 => ∀ x dx, H1 x = none → H1 dx = none → dx ≠ x →
      spJ G C.T C.S ps.length j (.ref x :: (vs ++ [])) (upd (upd H1 dx (.own x)) x (.ins C' dx [])) (fun v H2 => v = .non ∧ Q (.ref x) H2) (EXK C) := fun σ H Q h => by
    refine rA_imp (aft_all rfl σ H Q h) fun vs H2 ⟨ds, c, fs, env, σ2, so, sm, ra, q⟩ x dx nx nd ne => ?_
    rw [List.append_nil]
    exact mk_sp F k1 so sm ra k6 k5.len nx nd ne q
  have hp := chkA_plain hA
  cases es with
  | nil =>
    have ea := chkA_nil hA
    subst ea
    exact PE.imp (pe_make0 k3 FO hr (F.gl hg) k2 k4 .nil F.hx o1) fun σ H Q h => rA_nil (fin σ H Q h)
  | cons e es =>
    obtain ⟨p1, p2⟩ := tail_plain hp
    exact PE.imp (pe_make k3 FO hr (F.gl hg) k2 k4 .nil F.hx ha o1 (star_plain p1 _ _) (back_plain p2)) fin
end
end Pv

/-! Pv, part Xq: calls with keywords. -/
namespace Pv
open PySem PySem.Spec PyProof.Rows L2
variable [TabC]
def takeI : Nat → IE → IE
  | n + 1, .cons e a => .cons e (takeI n a)
  | _, _ => .nil
def dropI : Nat → IE → IE
  | 0, a => a
  | n + 1, .cons _ a => dropI n a
  | _ + 1, a => a
def joinR : R → R → R
  | .ok (.tup a), .ok (.tup b) => .ok (.tup (a ++ b))
  | .ok (.tup _), .ok _ => .bad
  | .ok (.tup _), r => r
  | .ok _, _ => .bad
  | r, _ => r
theorem join_cons (x a b : R) : consD x (joinR a b) = joinR (consD x a) b ∨ (∃ d, a = .ok d ∧ ∀ ds, d ≠ .tup ds) ∨ (∃ d, b = .ok d ∧ ∀ ds, d ≠ .tup ds) := by
  cases a with
  | ok d =>
    cases d with
    | tup l =>
      cases b with
      | ok d =>
        cases d with
        | tup m => cases x <;> exact .inl rfl
        | _ => exact .inr (.inr ⟨_, rfl, fun _ z => by cases z⟩)
      | _ => cases x <;> exact .inl rfl
    | _ => exact .inr (.inl ⟨_, rfl, fun _ z => by cases z⟩)
  | _ => cases x <;> cases b <;> exact .inl rfl
section
variable {G : Gt} {C : Ct} {N : List Str} {sc : Scope} {X : Cx} {Γ : List OT}
theorem chkA_tup {S : Sem1} {env : Env} : ∀ {as : IE} {xs : List Expr} {d : D}, chkA G N sc as xs = true → ev S env as = .ok d → ∃ ds, d = .tup ds ∧ ds.length = xs.length
  | .nil, [], d, _, e => ⟨[], by cases e; exact ⟨rfl, rfl⟩⟩
  | .cons e0 a, x :: xs, d, h, e => by
    simp only [chkA, Bool.and_eq_true] at h
    have e : consD (ev S env e0) (ev S env a) = .ok d := e
    cases e1 : ev S env e0 with
    | ok y =>
      cases e2 : ev S env a with
      | ok z =>
        rw [e1, e2] at e
        obtain ⟨zs, rfl, hl⟩ := chkA_tup h.2 e2
        cases e
        exact ⟨_, rfl, by simp [hl]⟩
      | _ => rw [e1, e2] at e; cases e
    | _ => cases e2 : ev S env a <;> (rw [e1, e2] at e; cases e)
  | .nil, _ :: _, _, h, _ => by simp [chkA] at h
  | .cons _ _, [], _, h, _ => by simp [chkA] at h
theorem chkA_split : ∀ {es ks : List Expr} {as : IE}, chkA G N sc as (es ++ ks) = true → chkA G N sc (takeI es.length as) es = true ∧ chkA G N sc (dropI es.length as) ks = true
  | [], ks, as, h => by
    refine ⟨?_, h⟩
    rfl
  | x :: es, ks, as, h => by
    cases as with
    | cons e a =>
      rw [List.cons_append] at h
      simp only [chkA, Bool.and_eq_true] at h
      obtain ⟨h1, h2⟩ := chkA_split h.2
      refine ⟨?_, h2⟩
      show chkA G N sc (.cons e (takeI es.length a)) (x :: es) = true
      simp only [chkA, Bool.and_eq_true]
      exact ⟨h.1, h1⟩
    | _ => simp [chkA] at h
theorem ev_split {S : Sem1} {env : Env} : ∀ {es ks : List Expr} {as : IE}, chkA G N sc as (es ++ ks) = true → ev S env as = joinR (ev S env (takeI es.length as)) (ev S env (dropI es.length as))
  | [], ks, as, h => by
    have e1 : takeI 0 as = .nil := rfl
    show ev S env as = joinR (ev S env (takeI 0 as)) (ev S env as)
    rw [e1]
    show ev S env as = joinR (.ok (.tup [])) (ev S env as)
    cases e : ev S env as with
    | ok d =>
      obtain ⟨ds, rfl, _⟩ := chkA_tup h e
      rfl
    | _ => rfl
  | x :: es, ks, as, h => by
    have hs := chkA_split h
    cases as with
    | cons e a =>
      rw [List.cons_append] at h
      simp only [chkA, Bool.and_eq_true] at h
      have ih := ev_split (S := S) (env := env) h.2
      show consD (ev S env e) (ev S env a) = joinR (consD (ev S env e) (ev S env (takeI es.length a))) (ev S env (dropI es.length a))
      rw [ih]
      rcases join_cons (ev S env e) (ev S env (takeI es.length a)) (ev S env (dropI es.length a)) with z | ⟨d, z, n⟩ | ⟨d, z, n⟩
      · exact z
      · obtain ⟨ds, q, _⟩ := chkA_tup (chkA_split h.2).1 z
        exact absurd q (n ds)
      · obtain ⟨ds, q, _⟩ := chkA_tup (chkA_split h.2).2 z
        exact absurd q (n ds)
    | _ => simp [chkA] at h
theorem okE_split : ∀ {n : Nat} {as : IE}, okE Γ as = true → okE Γ (takeI n as) = true ∧ okE Γ (dropI n as) = true
  | 0, as, h => by
    refine ⟨?_, h⟩
    rfl
  | n + 1, as, h => by
    cases as with
    | cons e a =>
      have h' := and2 h
      obtain ⟨h1, h2⟩ := okE_split (n := n) h'.2
      refine ⟨?_, h2⟩
      show (okE Γ e && okE Γ (takeI n a)) = true
      rw [h'.1, h1]; rfl
    | _ => exact ⟨rfl, h⟩
/-- the arguments' rule, from each of them -/
theorem paMA (F : XF G C N sc X) : ∀ {as : IE} {es : List Expr}, MA G N sc as es → okE Γ as = true → chkA G N sc as es = true → PA X es (rA C Γ (tyL G Γ as) as)
  | .nil, [], _, _, _ => sndA_nil
  | .cons e a, x :: xs, m, ok, h => by
    simp only [chkA, Bool.and_eq_true] at h
    exact sndA_cons h.1.1 (m.1 F (and2 ok).1 h.1.2).1 (paMA F m.2 (and2 ok).2 h.2)
  | .nil, _ :: _, _, _, h => by simp [chkA] at h
  | .cons _ _, [], _, _, h => by simp [chkA] at h
theorem PK.imp {kws : List Keyword} {t t' : TA} (h : PK X kws t) (i : ∀ σ H Q, t' σ H Q → t σ H Q) : PK X kws t' := ⟨fun p pins s σ H Q I q => h.run p pins s σ H Q I (i σ H Q q)⟩
theorem pkMA (F : XF G C N sc X) : ∀ {as : IE} {kws : List Keyword}, MA G N sc as (kwVals kws) → okE Γ as = true → chkA G N sc as (kwVals kws) = true → PK X kws (rA C Γ (tyL G Γ as) as)
  | .nil, [], _, _, _ => PK.imp pk_nil fun σ H Q h => rA_nil h
  | .cons e a, ⟨nm, x, kp⟩ :: xs, m, ok, h => by
    have h : chkA G N sc (.cons e a) (x :: kwVals xs) = true := h
    simp only [chkA, Bool.and_eq_true] at h
    have m : M1 G N sc e x ∧ MA G N sc a (kwVals xs) := m
    exact PK.imp (pk_cons (m.1 F (and2 ok).1 h.1.2).1 (pkMA F m.2 (and2 ok).2 h.2)) consA_imp
  | .nil, _ :: _, _, _, h => by simp [chkA, kwVals] at h
  | .cons _ _, [], _, _, h => by simp [chkA, kwVals] at h
theorem MA_split : ∀ {es ks : List Expr} {as : IE}, MA G N sc as (es ++ ks) → MA G N sc (takeI es.length as) es ∧ MA G N sc (dropI es.length as) ks
  | [], ks, as, h => by
    refine ⟨?_, h⟩
    have e1 : takeI 0 as = .nil := rfl
    show MA G N sc (takeI 0 as) []
    rw [e1]
    trivial
  | x :: es, ks, as, h => by
    cases as with
    | cons e a =>
      have h : M1 G N sc e x ∧ MA G N sc a (es ++ ks) := h
      obtain ⟨h1, h2⟩ := MA_split h.2
      exact ⟨⟨h.1, h1⟩, h2⟩
    | _ => exact ⟨trivial, by unfold dropI; simp [MA]⟩
theorem kw_ok {pos : Pos} {env : PySem.Env} : ∀ {kws : List Keyword} {ks : List Str}, kwNames kws = some ks → (backToKw pos (keywordEach kws env)).all (·.1.isSome) = true ∧ (backToKw pos (keywordEach kws env)).filterMap (·.1) = ks ∧ (backToKw pos (keywordEach kws env)).any (·.1.isNone) = false ∧ kws.length = ks.length
  | [], ks, h => by cases h; exact ⟨rfl, rfl, rfl, rfl⟩
  | ⟨some n, v, p⟩ :: kws, ks, h => by
    have h : (kwNames kws).map (n :: ·) = some ks := h
    obtain ⟨l, e, rfl⟩ := Option.map_eq_some_iff.mp h
    obtain ⟨h1, h2, h3, h4⟩ := kw_ok (pos := pos) (env := env) e
    unfold backToKw at h1 h2 h3 ⊢
    unfold keywordEach
    refine ⟨by simp [h1] at h1 ⊢; exact h1, by simpa using h2, by simp at h3 ⊢; exact h3, by simp [h4]⟩
  | ⟨none, v, p⟩ :: kws, ks, h => by cases h
/-- the positional ones, then the keywords' values, then the call -/
theorem aft_split {o : XOp} {es ks : List Expr} {as : IE} {t : OT} (hl : o.late = true) (hA : chkA G N sc as (es ++ ks) = true) (σ : L2.St) (H : Hp) (Q : VK) (h : rE C Γ t (.x o as) σ H Q) :
    rA C Γ (tyL G Γ (takeI es.length as)) (takeI es.length as) σ H fun vs H1 => rA C Γ (tyL G Γ (dropI es.length as)) (dropI es.length as) σ H1 fun zs H2 => ∃ d1 d2, vs.length = es.length ∧ zs.length = ks.length ∧ d1.length = vs.length ∧ d2.length = zs.length ∧ Aft C Γ o t Q (vs ++ zs) (d1 ++ d2) H2 := by
  obtain ⟨c, fs, env, so, sm, p⟩ := h
  rw [ev_x fun a r _ => pre_late hl _ _, ev_split hA] at p
  have p' : Pst C.EX (fun x => ∃ d1, x = .tup d1 ∧ d1.length = es.length ∧ Pst C.EX (fun y => ∃ d2, y = .tup d2 ∧ d2.length = ks.length ∧ Pst C.EX (fun d => ∀ v H', Ev H H' → RO C.T c t fs.flatten H H' v d → Q v H') (xopD C.S o (d1 ++ d2))) (ev C.S env (dropI es.length as))) (ev C.S env (takeI es.length as)) := by
    cases e1 : ev C.S env (takeI es.length as) with
    | ok x =>
      rw [e1] at p
      obtain ⟨d1, rfl, l1⟩ := chkA_tup (chkA_split hA).1 e1
      refine ⟨d1, rfl, l1, ?_⟩
      cases e2 : ev C.S env (dropI es.length as) with
      | ok y =>
        rw [e2] at p
        obtain ⟨d2, rfl, l2⟩ := chkA_tup (chkA_split hA).2 e2
        exact ⟨d2, rfl, l2, p⟩
      | ex k es' => rw [e2] at p; exact p
      | bad => rw [e2] at p; exact p
    | ex k es' => rw [e1] at p; exact p
    | bad => rw [e1] at p; exact p
  refine ⟨c, fs, env, so, sm, p'.imp fun x k ds vs H1 e s1 r1 => ?_⟩
  subst e
  obtain ⟨d1, e, l1, k⟩ := k
  cases e
  have so1 := so.mono s1
  refine ⟨c, fs, env, so1, sm.mono s1, k.imp fun y k ds2 zs H2 e s2 r2 => ?_⟩
  subst e
  obtain ⟨d2, e, l2, q⟩ := k
  cases e
  have ra1 := r1.rep so
  have ra2 := r2.rep so1
  have s12 := s1.trans s2
  exact ⟨ds, ds2, by rw [ra1.length, l1], by rw [ra2.length, l2], ra1.length.symm, ra2.length.symm, c, fs, env, σ, so.mono s12, sm.mono s12, (ra1.mono (Cfg.A_mono s2)).append ra2, q.imp fun d k v H' s' r' => k v H' (s12.trans s') (r'.same s12)⟩
theorem snd_kcall (F : XF G C N sc X) (hcm : G.cm = true) {j n : Nat} {ks : List Str} {ds : List D} {x : Str} {es : List Expr} {kws : List Keyword} {p pos : Pos} {as : IE} (hn : es.length = n) (h0 : 0 < n) (hg : glB sc x = true) (ok : okN x = true) (hj : j < G.lv) (hfn : G.fn[j]? = some x) (hgs : x ∈ G.gs) (hk : kwNames kws = some ks)
    (hs : (j, n, ks, ds) ∈ G.sh) (m : MA G N sc as (es ++ kwVals kws)) (okE' : okE Γ as = true) (hA : chkA G N sc as (es ++ kwVals kws) = true) : PE X (.Call (.Name x p) es kws pos) (rE C Γ (tyX G (.kcall j n ks ds)) (.x (.kcall j n ks ds) as)) := by
  obtain ⟨o1, o2, o3⟩ := okN_of ok
  obtain ⟨f, fd, ps, dvs, dV, k1, k2, k3, k4, k5, k6, k7, k8⟩ := F.ff.sh _ hs hj x hfn hgs
  obtain ⟨m1, m2⟩ := MA_split m
  obtain ⟨ok1, ok2⟩ := okE_split (n := es.length) okE'
  obtain ⟨hA1, hA2⟩ := chkA_split hA
  have pa := paMA F m1 ok1 hA1
  have pk := pkMA F m2 ok2 hA2
  obtain ⟨w1, w2, w3, w4⟩ := kw_ok (pos := pos) (env := X.env) hk
  have FO := k2.ok
  have kp := k2.kp
  rw [← F.K] at FO kp k6 k7
  have hr : Room (j + 1) X.A := (F.rm hcm).mono (by show j + 1 ≤ G.lv; exact hj)
  have hp := chkA_plain hA1
  have fin : ∀ σ H Q, rE C Γ (tyX G (.kcall j n ks ds)) (.x (.kcall j n ks ds) as) σ H Q → rA C Γ (tyL G Γ (takeI es.length as)) (takeI es.length as) σ H fun vs H1 => rA C Γ (tyL G Γ (dropI es.length as)) (dropI es.length as) σ H1 fun zs H2 => vs.length = n ∧ zs.length = ks.length ∧ spJ G C.T C.S ps.length j (vs ++ zs ++ dvs) H2 Q (EXK C) := fun σ H Q h => by
    refine rA_imp (aft_split rfl hA σ H Q h) fun vs H1 k => rA_imp k fun zs H2 ⟨d1, d2, l1, l2, l3, l4, c, fs, env, σ2, so, sm, ra, q⟩ => ?_
    have lk : zs.length = ks.length := by rw [l2, ← w4]; simp [kwVals]
    have q : Pst C.EX (fun d => ∀ v H', Ev H2 H' → RO C.T c (tyX G (.kcall j n ks ds)) fs.flatten H2 H' v d → Q v H') (if (d1 ++ d2).length = n + ks.length then C.S j ((d1 ++ d2) ++ ds) else .bad) := q
    rw [if_pos (by rw [List.length_append, l3, l4, l1, lk, hn])] at q
    exact ⟨by rw [l1, hn], lk, sp_aft F k8 (.inl rfl) k2.len so sm (ra.append (k4 _)) q⟩
  cases kws with
  | nil =>
    cases hk
    have e2 := chkA_nil hA2
    cases es with
    | nil => simp at hn; omega
    | cons e es =>
      obtain ⟨p1, p2⟩ := tail_plain hp
      refine PE.imp (pe_call FO hr (F.gl hg) k1 kp (k6 rfl) k3 F.hx pa o1 (star_plain p1 _ _) (back_plain p2)) fun σ H Q h => rA_imp (fin σ H Q h) fun vs H1 k => ?_
      rw [e2] at k
      have := (rA_nil k).2.2
      rwa [List.append_nil] at this
  | cons kw kws =>
    have hks : ks ≠ [] := fun z => by rw [z] at w4; simp at w4
    cases es with
    | nil => simp at hn; omega
    | cons e es =>
      obtain ⟨p1, p2⟩ := tail_plain hp
      exact PE.imp (pe_callN FO hr (F.gl hg) k1 kp (k7 hks) F.hx pa pk w1 w2 o1 (star_plain p1 _ _) (by rw [back_plain hp, w3]; rfl)) fin
theorem snd_kmk (F : XF G C N sc X) (hcm : G.cm = true) {cn : Str} {j n : Nat} {ks : List Str} {ds : List D} {x : Str} {es : List Expr} {kws : List Keyword} {p pos : Pos} {as : IE} (hx : cn = x) (hn : es.length = n) (hg : glB sc x = true) (ok : okN x = true) (hj : j + 1 < G.lv) (hm : (cn, j) ∈ G.mkc) (hk : kwNames kws = some ks)
    (hs : (j, n, ks, ds) ∈ G.shm) (m : MA G N sc as (es ++ kwVals kws)) (okE' : okE Γ as = true) (hA : chkA G N sc as (es ++ kwVals kws) = true) : PE X (.Call (.Name x p) es kws pos) (rE C Γ (tyX G (.kmk cn j n ks ds)) (.x (.kmk cn j n ks ds) as)) := by
  subst hx
  obtain ⟨o1, o2, o3⟩ := okN_of ok
  obtain ⟨C', f, fd, ps, t, dvs, dV, k0, k1, kM, k2, k8, k3, k4, k5, k6, k7⟩ := F.ff.shm _ hs (Nat.lt_of_succ_lt hj) cn hm
  obtain ⟨m1, m2⟩ := MA_split m
  obtain ⟨ok1, ok2⟩ := okE_split (n := es.length) okE'
  obtain ⟨hA1, hA2⟩ := chkA_split hA
  have pa := paMA F m1 ok1 hA1
  have pk := pkMA F m2 ok2 hA2
  obtain ⟨w1, w2, w3, w4⟩ := kw_ok (pos := pos) (env := X.env) hk
  have FO := k2.ok
  rw [← F.K] at FO k6 k7 kM
  have hr : Room (j + 1 + 1) X.A := (F.rm hcm).mono (by show j + 1 + 1 ≤ G.lv; exact hj)
  have hp := chkA_plain hA1
  have et : tyX G (.kmk cn j n ks ds) = t := tyX_lt k8
  rw [et]
  have fin : ∀ σ H Q, rE C Γ t (.x (.kmk cn j n ks ds) as) σ H Q → rA C Γ (tyL G Γ (takeI es.length as)) (takeI es.length as) σ H fun vs H1 => rA C Γ (tyL G Γ (dropI es.length as)) (dropI es.length as) σ H1 fun zs H2 => vs.length = n ∧ zs.length = ks.length ∧ ∀ x dx, H2 x = none → H2 dx = none → dx ≠ x →
      spJ G C.T C.S ps.length j ((.ref x :: vs) ++ zs ++ dvs) (upd (upd H2 dx (.own x)) x (.ins C' dx [])) (fun v H3 => v = .non ∧ Q (.ref x) H3) (EXK C) := fun σ H Q h => by
    refine rA_imp (aft_split rfl hA σ H Q h) fun vs H1 k => rA_imp k fun zs H2 ⟨d1, d2, l1, l2, l3, l4, c, fs, env, σ2, so, sm, ra, q⟩ => ?_
    have lk : zs.length = ks.length := by rw [l2, ← w4]; simp [kwVals]
    have q : Pst C.EX (fun d => ∀ v H', Ev H2 H' → RO C.T c t fs.flatten H2 H' v d → Q v H') (if (d1 ++ d2).length = n + ks.length then mkO (C.S j (.obj cn [] [] :: ((d1 ++ d2) ++ ds))) else .bad) := q
    rw [if_pos (by rw [List.length_append, l3, l4, l1, lk, hn])] at q
    exact ⟨by rw [l1, hn], lk, fun x dx nx nd ne => mk_sp F k0 so sm (ra.append (k4 _)) k8 k2.len nx nd ne q⟩
  cases kws with
  | nil =>
    cases hk
    have e2 := chkA_nil hA2
    cases es with
    | nil =>
      have e1 := chkA_nil hA1
      refine PE.imp (pe_make0 kM FO hr (F.gl hg) k1 (k6 rfl) k3 F.hx o1) fun σ H Q h => ?_
      have h := fin σ H Q h
      rw [e1] at h
      have h := rA_nil h
      rw [e2] at h
      have h := (rA_nil h).2.2
      exact h
    | cons e es =>
      obtain ⟨p1, p2⟩ := tail_plain hp
      refine PE.imp (pe_make kM FO hr (F.gl hg) k1 (k6 rfl) k3 F.hx pa o1 (star_plain p1 _ _) (back_plain p2)) fun σ H Q h => rA_imp (fin σ H Q h) fun vs H1 k => ?_
      rw [e2] at k
      have := (rA_nil k).2.2
      simpa only [List.append_nil, List.cons_append] using this
  | cons kw kws =>
    have hks : ks ≠ [] := fun z => by rw [z] at w4; simp at w4
    cases es with
    | nil =>
      have e1 := chkA_nil hA1
      have hn0 : n = 0 := by rw [← hn]; rfl
      subst hn0
      refine PE.imp (pe_makeK0 kM FO hr (F.gl hg) k1 (k7 hks) F.hx pk w1 w2 o1 (by rw [back_plain hp, w3]; rfl)) fun σ H Q h => ?_
      have h := fin σ H Q h
      rw [e1] at h
      have h := rA_nil h
      exact rA_imp h fun zs H2 k => k
    | cons e es =>
      obtain ⟨p1, p2⟩ := tail_plain hp
      exact PE.imp (pe_makeK kM FO hr (F.gl hg) k1 (k7 hks) F.hx pa pk w1 w2 o1 (star_plain p1 _ _) (by rw [back_plain hp, w3]; rfl)) fin
end
end Pv

/-! Pv, part Xr: in, lcm, index. -/
namespace Pv
open PySem PySem.Spec PyProof.Rows L2
variable [TabC]
section
variable {prog : Program} {w : World} {A : Around} {E : Value → Shared → Prop} {s : Shared} {K : PySem.W.Frag} {a C f : Addr} {ox : Obj} {od : Option Obj}
/-- x in an instance, by its class's own def -/
theorem own_has {x : Value} {Q : Bool → Shared → Prop} (XI : K.In s.heap) (I : PySem.W.InstAt s.heap a ox C od) (hs : PySem.W.findIn K (.ref C) "__contains__" = some (some (.ref f))) (hf : PySem.W.isFn K (.ref f) = true)
    (h : wpAny (model prog w) A (call (.ref f) [.ref a, x]) (fun r s' => ∃ b, r = .bool b ∧ Q b s') E s) : wpAny (model prog w) A (contains (.ref a) x) Q E s := by
  unfold contains
  refine wpAny_holding ?_
  show wpAny _ _ (specialOf (.ref a) "__contains__" >>= _) _ _ _
  refine wpAny_bind (wpAny_bind (I.type.here ((PySem.W.looks_findIn XI hs).here ?_)))
  show wpAny _ _ (callSpecialUnlessNone? (.ref a) "__contains__" [x] _ >>= _) _ _ _
  refine wpAny_bind ?_
  unfold callSpecialUnlessNone?
  refine wpAny_bind (wpAny_bind (I.type.here ((PySem.W.looks_findIn XI hs).here ?_)))
  refine wpAny_holding (wpAny_bind ((PySem.W.bind_fn XI _ (beq_iff_eq.mp hf)).here ?_))
  show wpAny _ _ (call (.ref f) ([.ref a] ++ [x]) >>= _) _ _ _
  refine wpAny_bind (wpAny_mono h (fun r s' hr => ?_) fun _ _ z => z)
  obtain ⟨b, rfl, q⟩ := hr
  exact wpAny_pure (wpAny_truthy_bool q)
end
section
variable {G : Gt} {C : Ct} {N : List Str} {sc : Scope} {X : Cx} {Γ : List OT}
/-- what is asked of the two -/
def rHas (C' : Addr) (neg : Bool) (sp : Sp) (E : XK) : R2 := fun x y H Q => ∃ a dx fs, y = .ref a ∧ H a = some (.ins C' dx fs) ∧ sp [.ref a, x] H (fun v H' => ∃ b, v = .bl b ∧ Q (.bl (neg != b)) H') E
theorem op_has {C' f : Addr} {neg : Bool} {op : CmpOp} {sp : Sp} {E : XK} {k : Nat} {CX : CXT} (hop : inC neg op = true) (hm : Meth X.K C' "__contains__" f) (F : FnR X.prog X.w X.K X.mg X.base CX k f sp) (hr : Room k X.A) (hx : Passes CX X E) : OpR X (compareOp op) (rHas C' neg sp E) := by
  intro pins s σ H x y v u Q I rx ry h
  obtain ⟨a, dx, fs, rfl, hi, h⟩ := h
  obtain rfl : u = Value.ref a := ry
  obtain ⟨mA, O, _⟩ := ins_get I.hok hi
  obtain ⟨od, J, _⟩ := O.look
  have core : ∀ {R : Bool → Shared → Prop}, (∀ b s', EP X pins σ (fun v H' => ∃ b, v = .bl b ∧ Q (.bl (neg != b)) H') (.bool b) s' → R b s') → wpAny (model X.prog X.w) X.A (contains (.ref a) v) R X.xe s := fun {R} hR => by
    refine own_has I.kIn J hm.at_ hm.fn (wpAny_call (codeAny_mono (run_fnR (us := [.ref a, v]) (vs := [.ref a, x]) F hr hx I (.cons rfl (.cons rx .nil)) h) fun r s' hq => ?_))
    cases r with
    | error e => exact hq
    | ok fl =>
      cases fl with
      | ret z =>
        have hq : EP X pins σ (fun v H' => ∃ b, v = .bl b ∧ Q (.bl (neg != b)) H') z s' := hq
        obtain ⟨v', H', I', rv, b, eb, q⟩ := hq
        subst eb
        have ez : z = .bool b := rv
        subst ez
        exact ⟨b, rfl, hR b s' ⟨.bl b, H', I', rfl, b, rfl, q⟩⟩
      | next => exact False.elim hq
      | brk => exact False.elim hq
      | cont => exact False.elim hq
  have hop' : (op = .In ∧ neg = false) ∨ (op = .NotIn ∧ neg = true) := by
    cases op <;> cases neg <;> first | exact absurd hop (by decide) | exact .inl ⟨rfl, rfl⟩ | exact .inr ⟨rfl, rfl⟩
  rcases hop' with ⟨rfl, rfl⟩ | ⟨rfl, rfl⟩
  · show wpAny _ _ (contains (.ref a) v >>= fun b => pure (Value.bool b)) _ _ _
    refine wpAny_bind (core fun b s' hb => wpAny_pure ?_)
    obtain ⟨v', H', I', rv, b', eb, q⟩ := hb
    subst eb
    have ez : Value.bool b = .bool b' := rv
    cases ez
    exact ⟨.bl b, H', I', rfl, by simpa using q⟩
  · show wpAny _ _ (contains (.ref a) v >>= fun b => pure (Value.bool (!b))) _ _ _
    refine wpAny_bind (core fun b s' hb => wpAny_pure ?_)
    obtain ⟨v', H', I', rv, b', eb, q⟩ := hb
    subst eb
    have ez : Value.bool b = .bool b' := rv
    cases ez
    exact ⟨.bl (!b), H', I', rfl, by simpa using q⟩
/-- a comparison whose rule goes by what the operands are -/
theorem cmp_dyn {op : CmpOp} {e y : Expr} {pos : Pos} {a b i : IE} {ta tb : OT} (ha : PE X e (rE C Γ ta a)) (hb : PE X y (rE C Γ tb b)) (hm : behindInMarks op y = false)
    (h : ∀ σ H Q, rE C Γ .fz i σ H Q → ∃ r, OpR X (compareOp op) r ∧ tOp r (rE C Γ ta a) (rE C Γ tb b) σ H Q) : PE X (.Compare e [op] [y] pos) (rE C Γ .fz i) ∧ PT X (.Compare e [op] [y] pos) (rT C Γ i) :=
  ⟨⟨fun pins s σ H Q I q => let ⟨_, ho, k⟩ := h σ H Q q; (pe_cmpR ho ha hb hm).run pins s σ H Q I k⟩,
   ⟨fun pins s σ H Q I q => let ⟨_, ho, k⟩ := h σ H _ (rE_of_rT q); (pt_cmpR ho ha hb hm).run pins s σ H Q I k⟩⟩
theorem snd_inO (F : XF G C N sc X) (hcm : G.cm = true) {neg : Bool} {js : List (Str × Nat)} {op : CmpOp} {e y : Expr} {pos : Pos} {a b : IE} {ta tb : OT} (hop : inC neg op = true) (hs : noSet y = true) (hc : ∀ p ∈ js, G.pl.contains p.2 = true ∧ p.2 < G.lv ∧ (p.1, ("__contains__" : Str), p.2) ∈ G.me) (ha : PE X e (rE C Γ ta a)) (hb : PE X y (rE C Γ tb b)) :
    PE X (.Compare e [op] [y] pos) (rE C Γ .fz (.x (.inO neg js) (.cons a (.cons b .nil)))) ∧ PT X (.Compare e [op] [y] pos) (rT C Γ (.x (.inO neg js) (.cons a (.cons b .nil)))) := by
  refine cmp_dyn ha hb (by cases y <;> first | rfl | cases hs) fun σ H Q h => ?_
  obtain ⟨c, fs, env, so, sm, p⟩ := h
  have p : Pst C.EX (fun d => ∀ v H', Ev H H' → RO C.T c .fz fs.flatten H H' v d → Q v H') (argD (consD (ev C.S env a) (consD (ev C.S env b) (.ok (.tup [])))) (xopD C.S (.inO neg js))) := p
  cases e1 : ev C.S env a with
  | bad => rw [e1] at p; cases e2 : ev C.S env b <;> (rw [e2] at p; exact p.elim)
  | ex k es =>
    rw [e1] at p
    refine ⟨fun _ _ _ _ => False, fun _ _ _ _ _ _ _ _ _ _ _ _ z => z.elim, c, fs, env, so, sm, ?_⟩
    rw [e1]
    cases e2 : ev C.S env b <;> (rw [e2] at p; exact p)
  | ok d1 =>
    rw [e1] at p
    cases e2 : ev C.S env b with
    | bad => rw [e2] at p; exact p.elim
    | ex k es =>
      rw [e2] at p
      refine ⟨fun _ _ _ _ => False, fun _ _ _ _ _ _ _ _ _ _ _ _ z => z.elim, c, fs, env, so, sm, ?_⟩
      rw [e1]
      intro v H1 s1 r1
      refine ⟨c, fs, env, so.mono s1, sm.mono s1, ?_⟩
      rw [e2]
      exact p
    | ok d2 =>
      rw [e2] at p
      have p : Pst C.EX (fun d => ∀ v H', Ev H H' → RO C.T c .fz fs.flatten H H' v d → Q v H') (xopD C.S (.inO neg js) [d1, d2]) := p
      cases d2 with
      | obj cn ns ds =>
        have p : Pst C.EX (fun d => ∀ v H', Ev H H' → RO C.T c .fz fs.flatten H H' v d → Q v H') (optJ (js.lookup cn) fun j => negR neg (C.S j [.obj cn ns ds, d1])) := p
        cases e3 : js.lookup cn with
        | none => rw [e3] at p; exact p.elim
        | some j =>
          rw [e3] at p
          have p : Pst C.EX (fun d => ∀ v H', Ev H H' → RO C.T c .fz fs.flatten H H' v d → Q v H') (negR neg (C.S j [.obj cn ns ds, d1])) := p
          obtain ⟨hpl, h1, h2⟩ := hc _ (lookup_mem' e3)
          obtain ⟨C', g, fd, ps, k1, k2, k3, kf, k5, k6⟩ := F.ff.me _ h2 h1
          have k4 := k5.bd hpl
          have FO := k5.ok
          rw [← F.K] at k3 k4 FO
          have hr : Room (j + 1) X.A := (F.rm hcm).mono (by show j + 1 ≤ G.lv; exact h1)
          refine ⟨_, op_has hop k3 (FO.raw k4 .nil) hr F.hx, c, fs, env, so, sm, ?_⟩
          rw [e1]
          intro v H1 s1 r1
          have so1 := so.mono s1
          refine ⟨c, fs, env, so1, sm.mono s1, ?_⟩
          rw [e2]
          intro u H2 s2 r2
          have r2' := r2.rep so1
          obtain ⟨a2, C2, dx, fl, rfl, g1, g2, g3, g4⟩ := obj_of r2'
          rw [k1] at g2
          cases g2
          refine ⟨a2, dx, fl, rfl, (msk_some.mp g1).2, ?_⟩
          have so2 := so1.mono s2
          show spJ G C.T C.S ps.length j [.ref a2, v] H2 _ _
          refine sp_aft (t := .fz) F k6 (.inr rfl) k5.len so2 ((sm.mono s1).mono s2) (.cons r2' (.cons ((r1.rep so).mono (Cfg.A_mono s2)) .nil)) ?_
          cases e4 : C.S j [.obj cn ns ds, d1] with
          | bad => rw [e4] at p; exact p.elim
          | ex k es => rw [e4] at p; exact p
          | ok d =>
            rw [e4] at p
            cases d with
            | bl b0 =>
              intro v' H' s' r'
              exact ⟨b0, r'.bl, p _ _ ((s1.trans s2).trans s') .mkBl⟩
            | _ => exact p.elim
      | _ => exact p.elim
/-! ### in a list, a tuple of plain things -/
theorem flat_v {T : Tb} {A : Hp} {v : V} {d : D} (r : Rep T A v d) (h : d.flat = true) : flatV v = true := by
  cases r <;> first | rfl | cases h
theorem flat_all {T : Tb} {A : Hp} : ∀ {vs : List V} {ds : List D}, RepA T A vs ds → ds.all D.flat = true → vs.all flatV = true
  | _, _, .nil, _ => rfl
  | _, _, .cons r t, h => by
    obtain ⟨h1, h2⟩ := and2 h
    rw [List.all_cons, flat_v r h1, flat_all t h2]; rfl
theorem eqv_v {T : Tb} {A : Hp} {v w : V} {d e : D} (r : Rep T A v d) (q : Rep T A w e) (h : d.flat = true) (k : e.flat = true) : eqV v w = D.eqv d e := by
  cases r <;> first
    | (cases h; done)
    | (cases q <;> first | (cases k; done) | rfl)
theorem any_v {T : Tb} {A : Hp} {w : V} {e : D} (q : Rep T A w e) (k : e.flat = true) : ∀ {vs : List V} {ds : List D}, RepA T A vs ds → ds.all D.flat = true → inV w vs = ds.any fun d => D.eqv d e
  | _, _, .nil, _ => rfl
  | _, _, .cons r t, h => by
    obtain ⟨h1, h2⟩ := and2 h
    have := any_v q k t h2
    unfold inV at this ⊢
    rw [List.any_cons, List.any_cons, eqv_v r q h1 k, this]
theorem snd_inS (F : XF G C N sc X) {neg : Bool} {op : CmpOp} {e y : Expr} {pos : Pos} {a b : IE} {ta tb : OT} (hop : inC neg op = true) (hs : noSet y = true) (ha : PE X e (rE C Γ ta a)) (hb : PE X y (rE C Γ tb b)) :
    PE X (.Compare e [op] [y] pos) (rE C Γ .fz (.x (.inS neg) (.cons a (.cons b .nil)))) ∧ PT X (.Compare e [op] [y] pos) (rT C Γ (.x (.inS neg) (.cons a (.cons b .nil)))) := by
  have mk : behindInMarks op y = false := by cases y <;> first | rfl | cases hs
  have ho : OpR X (compareOp op) (rIn X.K neg) := by
    cases op <;> cases neg <;> first | (cases hop; done) | exact op_in_seq | exact op_notIn_seq
  refine cmp_dyn ha hb mk fun σ H Q h => ⟨_, ho, ?_⟩
  obtain ⟨c, fs, env, so, sm, p⟩ := h
  have p : Pst C.EX (fun d => ∀ v H', Ev H H' → RO C.T c .fz fs.flatten H H' v d → Q v H') (argD (consD (ev C.S env a) (consD (ev C.S env b) (.ok (.tup [])))) (xopD C.S (.inS neg))) := p
  have p2 : Pst C.EX (fun d1 => Pst C.EX (fun d2 => Pst C.EX (fun d => ∀ v H', Ev H H' → RO C.T c .fz fs.flatten H H' v d → Q v H') (xopD C.S (.inS neg) [d1, d2])) (ev C.S env b)) (ev C.S env a) := by
    cases e1 : ev C.S env a with
    | ok d1 =>
      rw [e1] at p
      show Pst _ _ _
      cases e2 : ev C.S env b <;> (rw [e2] at p; exact p)
    | ex k es => rw [e1] at p; cases e2 : ev C.S env b <;> (rw [e2] at p; exact p)
    | bad => rw [e1] at p; cases e2 : ev C.S env b <;> (rw [e2] at p; exact p)
  refine ⟨c, fs, env, so, sm, p2.imp fun d1 k v H1 s1 r1 => ?_⟩
  have so1 := so.mono s1
  refine ⟨c, fs, env, so1, sm.mono s1, Pst.imp k fun d2 q w H2 s2 r2 => ?_⟩
  have q1 := (r1.rep so).mono (Cfg.A_mono (W := fs.flatten) s2)
  have q2 := r2.rep so1
  rw [F.K]
  cases q2 with
  | @lst p vs ds h1 h2 =>
    have q : Pst C.EX (fun d => ∀ v H', Ev H H' → RO C.T c .fz fs.flatten H H' v d → Q v H') (if (d1.flat && ds.all D.flat) = true then .ok (.bl (neg != ds.any fun d => D.eqv d d1)) else .bad) := q
    split at q
    · rename_i hf
      obtain ⟨f1, f2⟩ := and2 hf
      refine ⟨_, _, rfl, .inl (.of (msk_some.mp h1).2), flat_v q1 f1, flat_all h2 f2, ?_⟩
      rw [any_v q1 f1 h2 f2]
      have := q (.bl (neg != ds.any fun d => D.eqv d d1)) H2 (s1.trans s2) .mkBl
      cases neg <;> simpa using this
    · exact q.elim
  | @tup p vs ds h1 h2 =>
    have q : Pst C.EX (fun d => ∀ v H', Ev H H' → RO C.T c .fz fs.flatten H H' v d → Q v H') (if (d1.flat && ds.all D.flat) = true then .ok (.bl (neg != ds.any fun d => D.eqv d d1)) else .bad) := q
    split at q
    · rename_i hf
      obtain ⟨f1, f2⟩ := and2 hf
      refine ⟨_, _, rfl, .inr (seqT msk_same h1), flat_v q1 f1, flat_all h2 f2, ?_⟩
      rw [any_v q1 f1 h2 f2]
      have := q (.bl (neg != ds.any fun d => D.eqv d d1)) H2 (s1.trans s2) .mkBl
      cases neg <;> simpa using this
    · exact q.elim
  | _ => exact q.elim
theorem snd_lcm (F : XF G C N sc X) {p pos : Pos} {e e2 : Expr} {as : IE} (hc : G.lc = true) (hg : glB sc "lcm" = true) (hA : chkA G N sc as [e, e2] = true) (ha : PA X [e, e2] (rA C Γ (tyL G Γ as) as)) :
    PE X (.Call (.Name "lcm" p) [e, e2] [] pos) (rE C Γ .fz (.x .lcm as)) := by
  obtain ⟨p1, p2⟩ := tail_plain (chkA_plain hA)
  refine PE.imp (pe_callBfun cr_lcm (F.gl hg) (F.ff.lc hc) ha (by decide) (star_plain p1 _ _) (back_plain p2)) fun σ H Q h => ?_
  refine rA_imp (aft_all rfl σ H Q h) fun vs H2 ⟨ds, c, fs, env, σ2, so, sm, ra, q⟩ => ?_
  cases ra with
  | nil => exact q.elim
  | cons r t =>
    cases t with
    | nil => cases r <;> exact q.elim
    | cons r' t' =>
      cases t' with
      | cons _ _ => cases r <;> first | exact q.elim | (cases r' <;> exact q.elim)
      | nil =>
        cases r with
        | int i =>
          cases r' with
          | int j =>
            have q : Pst C.EX (fun d => ∀ v H', Ev H2 H' → RO C.T c .fz fs.flatten H2 H' v d → Q v H') (if (decide (i.natAbs.log2 < 8999) && decide (j.natAbs.log2 < 8999)) = true then .ok (.int (Nat.lcm i.natAbs j.natAbs : Nat)) else .bad) := q
            split at q
            · rename_i hb
              simp only [Bool.and_eq_true, decide_eq_true_eq] at hb
              have big : ∀ {n : Nat}, n.log2 < 8999 → n < 2 ^ 9000 := fun {n} h => Nat.lt_of_lt_of_le Nat.lt_log2_self (Nat.pow_le_pow_right (by decide) (by omega))
              exact ⟨i, j, rfl, big hb.1, big hb.2, q _ _ (Ev.refl _) .mkInt⟩
            · exact q.elim
          | _ => exact q.elim
        | _ => exact q.elim
end
end Pv

/-! Pv, part Xh: what is asked of an exception that is handled; how often an item stands in a list. -/
namespace Pv
open PySem PySem.Spec PyProof.Rows L2
variable [TabC]
/-! ### isinstance(e, c) -/
theorem call_isH {X : Cx} {a D : Addr} {oe : Obj} (hp : (a, oe) ∈ X.pn) (C : ExcC X.K D) (hz : Zc (.ref D) none oe) (hf : ∃ vs, oe.data = .fields vs) : CallR X (.builtin "isinstance") (rIsE X.K D a) := by
  intro pins s σ H xs us Q I r h
  obtain ⟨c, cv, b, rfl, hcv, e, q⟩ := h
  cases r with
  | cons rx rr =>
    cases rr with
    | cons rt rr =>
      cases rr
      cases rx
      have ec := hcv _ rt
      subst ec
      have hget := (I.pin (a, oe) (List.mem_append_left _ hp)).1
      obtain ⟨vs, hv⟩ := hf
      obtain ⟨oc, od, oda, osl⟩ := oe
      obtain ⟨h1, h2⟩ := hz
      dsimp only at h1 h2 hv
      subst h1 h2 hv
      refine PySem.W.kia_one (PySem.W.handS_kitx_exc C.hg C.hk C.hs C.hd C.ha C.hn C.ht C.hm) I.kIn (⟨hget, rfl, rfl, trivial⟩ : PySem.W.InstAt s.heap a _ D none) e (fun z => nomatch z) fun tk => ?_
      exact ⟨.bl b, H, I.kept (t' := tk) fun _ _ z => z, rfl, q⟩
section
variable {G : Gt} {C : Ct} {N : List Str} {sc : Scope} {X : Cx} {Γ : List OT}
theorem snd_isC (F : XF G C N sc X) {q : Str} {yes : List Str} {e : Expr} {a : IE} {t : OT} {p p' pos : Pos} (hcm : G.cm = false) (hg : glB sc "isinstance" = true) (hin : ("isinstance" : Str) ∈ G.bl) (hg' : glB sc q = true) (ok : okN q = true) (hxs : ∀ c ∈ G.xc, (c, q, yes.contains c) ∈ G.xs)
    (hpl : plainX e = true) (ha : PE X e (rE C Γ t a)) : PE X (.Call (.Name "isinstance" p) [e, .Name q p'] [] pos) (rE C Γ .fz (.x (.isC q yes) (.cons a .nil))) := by
  obtain ⟨o1, o2, o3⟩ := okN_of ok
  obtain ⟨⟨a0, oe⟩, c0, C0, dx, hp, hc0, hcl, hz, hf, hxa⟩ := F.hot hcm
  obtain ⟨C1, v1, cv, k1, k2, k3, k4⟩ := F.ff.xs _ (hxs c0 hc0)
  have k1 : C.T.cls c0 = some C1 := k1
  rw [hcl] at k1
  cases k1
  have hv1 : ∀ u, RelV v1 u → u = cv := by
    rcases k3 with ⟨D, m, rfl, rfl⟩ | ⟨m, _, rfl, rfl⟩
    · exact fun u h => h
    · exact fun u h => h
  have ht : PE X (.Name q p') (tC v1) := by
    rcases k3 with ⟨D, m, rfl, rfl⟩ | ⟨m, rfl, rfl, rfl⟩
    · exact pe_glob (F.gl hg') m rfl o1
    · exact pe_bltn (F.gl hg') m (by decide +kernel) rfl o3 o1
  rw [← F.K] at k2 k4
  have rule : CallR X (.builtin "isinstance") (fun xs H Q => dx = none ∧ rIsE X.K C0 a0 xs H Q) := by
    intro pins s σ H xs us Q I r h
    obtain ⟨rfl, h⟩ := h
    exact call_isH hp k2 hz hf pins s σ H xs us Q I r h
  refine PE.imp (pe_callB rule (F.gl hg) (F.ff.bl _ hin) (by decide +kernel) (pa_cons ha (pa_cons ht pa_nil) (star_plain hpl _ _)) (by decide) (by decide) (star_plain hpl _ _) (back_plain (by rfl))) fun σ H Q h => ?_
  obtain ⟨c, fs, env, so, sm, z⟩ := h
  refine ⟨c, fs, env, so, sm, Pst.imp (Pst.cons (Pst.arg z)) fun d k v H1 s1 r1 => ?_⟩
  obtain ⟨ds, e1, ds', e2, z⟩ := (show ∃ ds, D.tup [] = D.tup ds ∧ ∃ ds', D.tup (d :: ds) = D.tup ds' ∧ Pst C.EX (fun d => ∀ v H', Ev H H' → RO C.T c .fz fs.flatten H H' v d → Q v H') (xopD C.S (.isC q yes) ds') from k)
  cases e1
  cases e2
  have r := r1.rep so
  cases d with
  | exc c1 es =>
    cases es with
    | cons _ _ => exact z.elim
    | nil =>
      cases r with
      | @exc0 b _ hb =>
        rw [hxa] at hb
        have hb : (if b = a0 then some (c0, dx) else none) = some (c1, none) := hb
        split at hb
        · rename_i eb
          cases hb
          subst eb
          exact ⟨rfl, v1, cv, yes.contains c0, rfl, hv1, k4, z _ _ s1 .mkBl⟩
        · cases hb
      | exc1 _ _ _ _ ne => exact absurd rfl ne
  | _ => exact z.elim
/-! ### xs.count(y) -/
def rCnt (K : PySem.W.Frag) : V → List V → Hp → VK → Prop := fun x xs H Q => ∃ (a : Addr) (ys : List V) (y : V), x = .ref a ∧ xs = [y] ∧ SqL K H a ys ∧ flatV y = true ∧ ys.all flatV = true ∧ Q (.int (ys.countP fun z => eqV z y : Nat)) H
theorem cnt_eq {y : V} : ∀ {ys : List V} {its : List Value}, Vals ys its → ys.all flatV = true → its.countP (eqU y) = ys.countP fun z => eqV z y
  | _, _, .nil, _ => rfl
  | z :: ys, u :: its, .cons r t, f => by
    rw [List.all_cons, Bool.and_eq_true] at f
    rw [List.countP_cons, List.countP_cons, cnt_eq t f.2, eqU_of r f.1]
theorem mt_cnt {X : Cx} : MtR X "list.count" (rCnt X.K) := by
  intro pins s σ H x xs v us Q I rx rxs h
  obtain ⟨a, ys, y, rfl, rfl, hs, fy, fys, q⟩ := h
  cases rx
  cases rxs with
  | cons ry rt =>
    rename_i uy ut
    cases rt
    obtain ⟨its, rv, ⟨⟨cls, dd, data, sl⟩, n, ho, hc, hdn, hd⟩, hlen⟩ := I.list hs
    simp only at hc hd
    subst hc hd
    refine call_meets PySem.F.slot_list_count ⟨_, ho, rfl⟩ PySem.F.entry_list_count (PySem.F.args_list_count_2 _ _) (PySem.SeqAt.list_countAt a its.toArray n dd sl uy (eqU y)) ⟨ho, fun u' hu' => mem_eqAt ry fy rv fys u' (by simpa using hu'), ?_⟩
    have e := cnt_eq (y := y) rv fys
    exact ⟨.int (ys.countP fun z => eqV z y : Nat), H, I.tok _, ⟨_, congrArg (fun n : Nat => Value.int (n : Int) s.toks) (by simpa using e)⟩, q⟩
theorem cntD_eq {T : Tb} {H : Hp} {v : V} {x : D} (r : Rep T H v x) (f : x.flat = true) : ∀ {vs : List V} {ds : List D}, RepA T H vs ds → ds.all D.flat = true → (vs.countP fun z => eqV z v) = cntD x ds
  | _, _, .nil, _ => rfl
  | u :: vs, d :: ds, .cons r' t, g => by
    rw [List.all_cons, Bool.and_eq_true] at g
    rw [List.countP_cons, cntD_eq r f t g.2]
    show _ = (if D.eqv d x then 1 else 0) + cntD x ds
    rw [eqv_v r' r g.1 f, Nat.add_comm]
theorem snd_lcnt (F : XF G C N sc X) {o e : Expr} {apos pos : Pos} {a as : IE} {ta : OT} (hs : noSup o = true) (hl : (apos.endLine == pos.line) = true) (hA : chkA G N sc as [e] = true) (ho : PE X o (rE C Γ ta a)) (ha : PA X [e] (rA C Γ (tyL G Γ as) as)) :
    PE X (.Call (.Attribute o "count" apos) [e] [] pos) (rE C Γ .fz (.x .lcnt (.cons a as))) := by
  obtain ⟨p1, p2⟩ := tail_plain (chkA_plain hA)
  have hst := star_plain p1 [] X.env
  refine PE.imp (pe_bm (X := X) (apos := apos) (cpos := pos) PySem.F.plainAttrs_list PySem.F.slot_list_count PySem.F.type_list_count mt_cnt ho ha (attrB hs) (by rw [hst]; rfl) hl hst rfl) fun σ H Q h => ?_
  obtain ⟨c, fs, env, so, sm, p⟩ := h
  have p : Pst C.EX (fun d => ∀ v H', Ev H H' → RO C.T c .fz fs.flatten H H' v d → Q v H') (preX .lcnt (ev C.S env a) (argD (consD (ev C.S env a) (ev C.S env as)) (xopD C.S .lcnt))) := p
  refine ⟨c, fs, env, so, sm, ?_⟩
  cases e1 : ev C.S env a with
  | bad => rw [e1] at p; cases e2 : ev C.S env as <;> (rw [e2] at p; exact p.elim)
  | ex k es => rw [e1] at p; cases e2 : ev C.S env as <;> (rw [e2] at p; exact p)
  | ok d =>
    rw [e1] at p
    cases d with
    | lst ds =>
      have p : Pst C.EX (fun d => ∀ v H', Ev H H' → RO C.T c .fz fs.flatten H H' v d → Q v H') (argD (consD (.ok (.lst ds)) (ev C.S env as)) (xopD C.S .lcnt)) := p
      intro v H1 s1 r1
      have rl := r1.rep so
      cases rl with
      | @lst q vs _ hq hv =>
        refine ⟨.inl ⟨rfl, _, .of (msk_some.mp hq).2⟩, rA_imp (aft_cons so sm s1 r1 p) fun us H2 ⟨ds2, c2, fs2, env2, σ2, so2, sm2, ra2, pp⟩ => ?_⟩
        cases ra2 with
        | cons r2 rr =>
          cases rr with
          | nil => exact pp.elim
          | @cons v3 x _ _ r3 rr =>
            cases rr with
            | cons _ _ => exact pp.elim
            | nil =>
              have pp : Pst C.EX (fun d => ∀ v H', Ev H2 H' → RO C.T c2 .fz fs2.flatten H2 H' v d → Q v H') (if (x.flat && ds.all D.flat) = true then .ok (.int (cntD x ds)) else .bad) := pp
              split at pp
              · rename_i hf
                obtain ⟨f1, f2⟩ := and2 hf
                cases r2 with
                | lst hq2 hv2 =>
                  rw [F.K]
                  refine ⟨_, _, _, rfl, rfl, .of (msk_some.mp hq2).2, flat_v r3 f1, flat_all hv2 f2, ?_⟩
                  rw [cntD_eq r3 f1 hv2 f2]
                  exact pp _ H2 (Ev.refl _) .mkInt
              · exact pp.elim
    | _ => exact p.elim
end
end Pv

/-! Pv, part Srt: sorted of triples of ints. -/
namespace Pv
open PySem PySem.Spec PyProof.Rows L2
abbrev I3 : Type := Int × Int × Int
def lex3 (p q : I3) : Bool := if p.1 = q.1 then (if p.2.1 = q.2.1 then decide (p.2.2 < q.2.2) else decide (p.2.1 < q.2.1)) else decide (p.1 < q.1)
theorem lex3_iff {p q : I3} : lex3 p q = true ↔ p.1 < q.1 ∨ (p.1 = q.1 ∧ (p.2.1 < q.2.1 ∨ (p.2.1 = q.2.1 ∧ p.2.2 < q.2.2))) := by
  unfold lex3
  split
  · split
    · rw [decide_eq_true_eq]; omega
    · rw [decide_eq_true_eq]; omega
  · rw [decide_eq_true_eq]; omega
theorem lex3_no {p q : I3} : lex3 p q = false ↔ ¬ (p.1 < q.1 ∨ (p.1 = q.1 ∧ (p.2.1 < q.2.1 ∨ (p.2.1 = q.2.1 ∧ p.2.2 < q.2.2)))) := by
  rw [← lex3_iff]
  cases lex3 p q <;> simp
theorem swo3 {α : Type} (k : α → I3) : SrtO.Swo fun v u => lex3 (k v) (k u) := by
  refine ⟨fun x y h => ?_, fun x y z h1 h2 => ?_⟩
  · have a := lex3_iff.mp h
    refine lex3_no.mpr ?_
    omega
  · have a := lex3_no.mp h1
    have b := lex3_no.mp h2
    refine lex3_no.mpr ?_
    omega
def IsTri (h : Heap) (v : Value) (p : I3) : Prop := ∃ a o t u r n, v = .ref a ∧ h.get? a = some o ∧ o.cls = .type "tuple" ∧ o.data = .seq #[.int p.1 t, .int p.2.1 u, .int p.2.2 r] n
theorem IsTri.keeps {h h' : Heap} {v : Value} {p : I3} (x : IsTri h v p) (k : ∀ b o, h.get? b = some o → o.cls = .type "tuple" → h'.get? b = some o) : IsTri h' v p := by
  obtain ⟨a, o, t, u, r, n, e, ho, hc, hd⟩ := x
  exact ⟨a, o, t, u, r, n, e, k _ _ ho hc, hc, hd⟩
theorem firsts3 {h : Heap} : ∀ {vs : List Value}, (∀ v ∈ vs, ∃ p, IsTri h v p) → ∃ fs : List Value, PySem.W.KatTups h vs fs ∧ fs.length = vs.length ∧ ∀ f ∈ fs, ∃ x t, f = Value.int x t
  | [], _ => ⟨[], PySem.W.KatTups.nil, rfl, fun _ hm => by cases hm⟩
  | v :: vs, hp => by
    obtain ⟨fs, g1, g2, g3⟩ := firsts3 (vs := vs) fun v' hm => hp v' (List.mem_cons_of_mem _ hm)
    obtain ⟨p, a, o, t, u, r, n, rfl, ho, hc, hd⟩ := hp v (List.mem_cons_self ..)
    refine ⟨.int p.1 t :: fs, PySem.W.KatTups.cons ho hc hd rfl g1, congrArg Nat.succ g2, fun f hm => ?_⟩
    rcases List.mem_cons.mp hm with rfl | hm
    · exact ⟨_, t, rfl⟩
    · exact g3 f hm
section
open SrtO
variable {prog : Program} {w : World} {A : Around} {E : Value → Shared → Prop} {s : Shared}
theorem tri_cmp {vs : List Value} {k : Value → I3} (hp : ∀ v ∈ vs, IsTri s.heap v (k v)) : Cmp prog w A s (tuples' true) (fun p => p.1 ∈ vs) (lt2 fun v u => lex3 (k v) (k u)) := by
  intro p q hm hm'
  have g1 := hp _ hm
  have g2 := hp _ hm'
  show wpAny (model prog w) A (keyLt' (tuples' true) p.1 q.1) (fun r s' => s' = s ∧ r = lex3 (k p.1) (k q.1)) (fun _ _ => False) s
  generalize k p.1 = b at g1 ⊢
  generalize k q.1 = c at g2 ⊢
  obtain ⟨x, y, z⟩ := b
  obtain ⟨x', y', z'⟩ := c
  obtain ⟨a, o, t, u, r, n, e, ho, hc, hd⟩ := g1
  obtain ⟨a', o', t', u', r', n', e', ho', hc', hd'⟩ := g2
  rw [e, e']
  refine PySem.W.kat_lt ho hd ho' hd' ?_
  show PySem.W.KatLex prog w A true (decide (3 < 3)) _ [(.int x t, .int x' t'), (.int y u, .int y' u'), (.int z r, .int z' r')] 0 s
  refine PySem.W.kat_cons (SeqAt.EqAt.int_int x t x' t' prog w _ _ (PySem.W.kat_go (fun e1 => ?_) (fun e1 => ?_)))
  · have ex : x = x' := by simpa using e1
    refine PySem.W.kat_yes (PySem.W.kat_cons (SeqAt.EqAt.int_int y u y' u' prog w _ _ (PySem.W.kat_go (fun e2 => ?_) (fun e2 => ?_))))
    · have ey : y = y' := by simpa using e2
      refine PySem.W.kat_yes (PySem.W.kat_cons (SeqAt.EqAt.int_int z r z' r' prog w _ _ (PySem.W.kat_go (fun e3 => ?_) (fun e3 => ?_))))
      · have ez : z = z' := by simpa using e3
        refine PySem.W.kat_yes (PySem.W.kat_nil ⟨rfl, ?_⟩)
        rw [ex, ey, ez]
        simp [lex3]
      · refine PySem.W.kat_no (PySem.W.kat_one _ _ (PyProof.Rows.lt_int ?_))
        exact (show s = s ∧ decide (z < z') = lex3 (x, y, z) (x', y', z') from ⟨rfl, by simp [lex3, ex, ey]⟩)
    · have ey : ¬ y = y' := by simpa using e2
      refine PySem.W.kat_no (PySem.W.kat_one _ _ (PyProof.Rows.lt_int ?_))
      exact (show s = s ∧ decide (y < y') = lex3 (x, y, z) (x', y', z') from ⟨rfl, by simp [lex3, ex, ey]⟩)
  · have ex : ¬ x = x' := by simpa using e1
    exact PySem.W.kat_no (oneLt_int ⟨rfl, by simp [lex3, ex]⟩)
theorem tri_sortable {a : Addr} {vs : List Value} {k : Value → I3} (h0 : 0 < vs.length) (hp : ∀ v ∈ vs, IsTri s.heap v (k v)) (ha : ∀ o, s.heap.get? a = some o → o.cls ≠ .type "tuple") : SortableO prog w A s a vs fun v u => lex3 (k v) (k u) := by
  intro h' keep
  have hp' : ∀ v ∈ vs, IsTri h' v (k v) := fun v hm => (hp v hm).keeps fun b o e c => keep b o (fun z => by subst z; exact ha o e c) e
  obtain ⟨fs, g1, g2, g3⟩ := firsts3 fun v hm => ⟨_, hp' v hm⟩
  refine ⟨tuples' true, fun Q E hq => PySem.W.kat_kind (T := .type "int") g1 (by omega) (fun f hm => ?_) (by rfl) ?_, tri_cmp hp'⟩
  · obtain ⟨x, t, rfl⟩ := g3 f hm
    exact PySem.W.Looks.now
  · rw [show (Value.type "int" != Value.type "tuple") = true by first | decide +kernel | rfl | decide]
    exact hq
end
abbrev ltT (k : V → I3) (x y : V) : Bool := lex3 (k x) (k y)
def v3 (p : I3) : List V := [.int p.1, .int p.2.1, .int p.2.2]
def rSrt3 (K : PySem.W.Frag) : List V → Hp → VK → Prop := fun vs H Q => ∃ (a : Addr) (xs : List V) (ps : List I3), vs = [.ref a] ∧ SqL K H a xs ∧ xs.length = ps.length ∧ (∀ (i : Nat) (x : V) (p : I3), xs[i]? = some x → ps[i]? = some p → ∃ t, x = .ref t ∧ SqT K H t (v3 p)) ∧
  ∀ (k : V → I3) ys p, ps = xs.map k → SrtO.Srtd (ltT k) ys → ys.Perm xs → H p = none → Q (.ref p) (upd H p (.lst ys))
theorem v3_inj {p q : I3} (h : v3 p = v3 q) : p = q := by
  obtain ⟨a, b, c⟩ := p
  obtain ⟨a', b', c'⟩ := q
  simp only [v3, List.cons.injEq, V.int.injEq, and_true] at h
  obtain ⟨rfl, rfl, rfl⟩ := h
  rfl
theorem vals3 {x y z : V} {us : List Value} (r : Vals [x, y, z] us) : ∃ u1 u2 u3, us = [u1, u2, u3] ∧ RelV x u1 ∧ RelV y u2 ∧ RelV z u3 := by
  cases r with
  | cons r1 r =>
    cases r with
    | cons r2 r =>
      cases r with
      | cons r3 r =>
        cases r
        exact ⟨_, _, _, rfl, r1, r2, r3⟩
theorem cr_srt3 {X : Cx} : CallR X (.builtin "sorted") (rSrt3 X.K) := by
  intro pins s σ H vs us Q I r h
  obtain ⟨a, xs, ps, rfl, hs, hlen, hxp, q⟩ := h
  obtain ⟨its, rv, hl, hz⟩ := I.list hs
  obtain ⟨u, rfl, ru⟩ := vals1 r
  -- each item's three numbers
  have ex : ∀ x ∈ xs, ∃ p t, x = V.ref t ∧ SqT X.K H t (v3 p) := fun x m => by
    obtain ⟨i, hi, e⟩ := List.getElem_of_mem m
    obtain ⟨t, h1, h2⟩ := hxp i x (ps[i]'(by omega)) (by rw [List.getElem?_eq_getElem hi, e]) (List.getElem?_eq_getElem _)
    exact ⟨_, t, h1, h2⟩
  let k : V → I3 := fun x => Classical.epsilon fun p => ∃ t, x = V.ref t ∧ SqT X.K H t (v3 p)
  have hx : ∀ x ∈ xs, ∃ t, x = V.ref t ∧ SqT X.K H t (v3 (k x)) := fun x m => Classical.epsilon_spec (ex x m)
  have eps : ps = xs.map k := by
    refine List.ext_getElem? fun i => ?_
    rw [List.getElem?_map]
    cases e : xs[i]? with
    | none =>
      have h1 : xs.length ≤ i := List.getElem?_eq_none_iff.mp e
      have h2 : ps[i]? = none := List.getElem?_eq_none_iff.mpr (by omega)
      rw [h2]
      rfl
    | some x =>
      have hi := (List.getElem?_eq_some_iff.mp e).1
      have e2 : ps[i]? = some (ps[i]'(by omega)) := List.getElem?_eq_getElem _
      obtain ⟨t, h1, h2⟩ := hxp i x _ e e2
      obtain ⟨t', h3, h4⟩ := hx x (List.mem_of_getElem? e)
      rw [h1] at h3
      cases h3
      rw [e2]
      exact congrArg some (v3_inj (I.tuple_inj h2 h4))
  obtain rfl : u = Value.ref a := ru
  obtain ⟨e1, e2⟩ := refs_back rv fun x m => by
    obtain ⟨t, e, _⟩ := hx x m
    exact ⟨t, e⟩
  have tri : ∀ v ∈ its, IsTri s.heap v (k (backV v)) := fun v hv => by
    obtain ⟨t, rfl⟩ := e2 v hv
    obtain ⟨t', e, ht⟩ := hx (.ref t) (by rw [e1]; exact List.mem_map.mpr ⟨_, hv, rfl⟩)
    cases e
    obtain ⟨its2, r2, hT, _⟩ := I.tuple ht
    obtain ⟨u1, u2, u3, rfl, ⟨t1, rfl⟩, ⟨t2, rfl⟩, ⟨t3, rfl⟩⟩ := vals3 r2
    obtain ⟨o, ho, hc, n, hd⟩ := hT
    exact ⟨t, o, t1, t2, t3, n, rfl, ho, hc, hd⟩
  refine SrtO.sorted_ord (swo3 fun u => k (backV u)) hl.isList (by rw [← rv.length]; exact hz) (fun h2 h₁ b hb kk => ?_) fun out h1 h2 => ?_
  · refine tri_sortable (s := { s with heap := h₁ }) (by omega) (fun v hm => (tri v hm).keeps fun b o e _ => (kk b o e).2) fun o e c => ?_
    rw [hb] at e
    cases e
    exact absurd (Value.type.inj c) (by decide)
  · obtain ⟨n, hn⟩ := PyProof.Rows.sortedAll_at s.heap its out.toArray
    have h3 : ∀ u ∈ out, ∃ a, u = Value.ref a := fun u hu => e2 u (h2.perm.mem_iff.mp hu)
    have hb : SrtO.Stb (ltT k) (out.map backV) xs := by
      rw [e1]
      exact SrtO.Stb.map (swo3 k) backV h2
    refine ⟨.ref (s.heap.objs.size + 1), upd H (s.heap.objs.size + 1) (.lst (out.map backV)), I.laid (t' := s.toks) (fun _ _ => PyProof.Rows.sortedAll_old) (Nat.le_succ _) ⟨?_, out, n, vals_back h3, hn⟩, rfl, q k _ _ eps (SrtO.srtd_map h1) hb.perm (I.hok.fresh (Nat.le_succ _))⟩
    rw [hb.len]
    exact hz
/-! ### what is sorted is one -/
theorem insT_perm (d : D) : ∀ es : List D, (insT d es).Perm (d :: es)
  | [] => .refl _
  | e :: es => by
    unfold insT
    split
    · exact .refl _
    · exact ((insT_perm d es).cons e).trans (.swap d e es)
theorem srtT_perm : ∀ ds : List D, (srtT ds).Perm ds
  | [] => .refl _
  | d :: ds => (insT_perm d (srtT ds)).trans ((srtT_perm ds).cons d)
def d3 (p : I3) : D := .tup [.int p.1, .int p.2.1, .int p.2.2]
theorem d3_is (p : I3) : (d3 p).tupIs = [p.1, p.2.1, p.2.2] := rfl
theorem leI3 (p q : I3) : leI (d3 p).tupIs (d3 q).tupIs = !lex3 q p := by
  rw [d3_is, d3_is, Bool.eq_iff_iff, Bool.not_eq_true', lex3_no]
  have e : (leI [p.1, p.2.1, p.2.2] [q.1, q.2.1, q.2.2] = true) ↔ p.1 < q.1 ∨ (p.1 = q.1 ∧ (p.2.1 < q.2.1 ∨ (p.2.1 = q.2.1 ∧ (p.2.2 < q.2.2 ∨ p.2.2 = q.2.2)))) := by
    simp [leI]
  rw [e]
  omega
theorem insT_map (p : I3) : ∀ qs : List I3, (qs.Pairwise fun a b => lex3 b a = false) → ∃ rs : List I3, insT (d3 p) (qs.map d3) = rs.map d3 ∧ (rs.Pairwise fun a b => lex3 b a = false) ∧ ∀ r ∈ rs, r = p ∨ r ∈ qs
  | [], _ => ⟨[p], rfl, List.pairwise_singleton _ _, fun r h => .inl (List.mem_singleton.mp h)⟩
  | q :: qs, h => by
    obtain ⟨h1, h2⟩ := List.pairwise_cons.mp h
    rw [List.map_cons]
    unfold insT
    rw [leI3]
    cases e : lex3 q p with
    | false =>
      refine ⟨p :: q :: qs, rfl, List.pairwise_cons.mpr ⟨fun b hb => ?_, h⟩, fun r hr => List.mem_cons.mp hr⟩
      rcases List.mem_cons.mp hb with rfl | hb
      · exact e
      · have a := lex3_no.mp e
        have b' := lex3_no.mp (h1 b hb)
        refine lex3_no.mpr ?_
        omega
    | true =>
      obtain ⟨rs, g1, g2, g3⟩ := insT_map p qs h2
      refine ⟨q :: rs, by simp [g1], List.pairwise_cons.mpr ⟨fun b hb => ?_, g2⟩, fun r hr => ?_⟩
      · rcases g3 b hb with rfl | hb
        · exact (swo3 id).asym q b e
        · exact h1 b hb
      · rcases List.mem_cons.mp hr with rfl | hr
        · exact .inr List.mem_cons_self
        · exact (g3 r hr).imp id (List.mem_cons_of_mem _)
theorem srtT_map : ∀ qs : List I3, ∃ rs : List I3, srtT (qs.map d3) = rs.map d3 ∧ (rs.Pairwise fun a b => lex3 b a = false)
  | [] => ⟨[], rfl, .nil⟩
  | q :: qs => by
    obtain ⟨rs, g1, g2⟩ := srtT_map qs
    obtain ⟨ts, k1, k2, _⟩ := insT_map q rs g2
    exact ⟨ts, by rw [← k1, ← g1]; rfl, k2⟩
theorem d3_inj {p q : I3} (h : d3 p = d3 q) : p = q := by
  obtain ⟨a, b, c⟩ := p
  obtain ⟨a', b', c'⟩ := q
  simp only [d3, D.tup.injEq, List.cons.injEq, D.int.injEq, and_true] at h
  obtain ⟨rfl, rfl, rfl⟩ := h
  rfl
theorem sorted_one : ∀ {l m : List I3}, (l.Pairwise fun a b => lex3 b a = false) → (m.Pairwise fun a b => lex3 b a = false) → l.Perm m → l = m
  | [], m, _, _, h => (List.Perm.eq_nil h.symm).symm
  | x :: l, [], _, _, h => absurd h.length_eq (by simp)
  | x :: l, y :: m, hl, hm, h => by
    have e1 : x = y ∨ lex3 x y = false := (List.mem_cons.mp (h.mem_iff.mp List.mem_cons_self)).imp id fun z => (List.pairwise_cons.mp hm).1 x z
    have e2 : y = x ∨ lex3 y x = false := (List.mem_cons.mp (h.mem_iff.mpr List.mem_cons_self)).imp id fun z => (List.pairwise_cons.mp hl).1 y z
    have e : x = y := by
      rcases e1 with e1 | e1
      · exact e1
      · rcases e2 with e2 | e2
        · exact e2.symm
        · have a := lex3_no.mp e1
          have b := lex3_no.mp e2
          obtain ⟨x1, x2, x3⟩ := x
          obtain ⟨y1, y2, y3⟩ := y
          simp only at a b
          have h1 : x1 = y1 := by omega
          have h2 : x2 = y2 := by omega
          have h3 : x3 = y3 := by omega
          rw [h1, h2, h3]
    subst e
    rw [sorted_one (List.pairwise_cons.mp hl).2 (List.pairwise_cons.mp hm).2 h.cons_inv]
theorem tupI_d3 {d : D} (h : d.tupI 3 = true) : ∃ p, d = d3 p := by
  have key : ∀ {ds : List D} {is : List Int}, D.ints ds = some is → ds = is.map D.int := by
    intro ds
    induction ds with
    | nil => intro is h; cases h; rfl
    | cons d ds ih =>
      intro is h
      cases d <;> first | (cases h; done) | skip
      rename_i i
      have h : (D.ints ds).map (i :: ·) = some is := h
      cases e : D.ints ds with
      | none => rw [e] at h; cases h
      | some js =>
        rw [e] at h
        cases h
        rw [ih e]
        rfl
  cases d <;> first | (cases h; done) | skip
  rename_i ds
  have h : (match D.ints ds with | some is => is.length == 3 | none => false) = true := h
  cases e : D.ints ds with
  | none => rw [e] at h; cases h
  | some is =>
    rw [e] at h
    have h : is.length = 3 := by simpa using h
    have hd := key e
    match is, h with
    | [a, b, c], _ => exact ⟨(a, b, c), by rw [hd]; rfl⟩
theorem all_d3 : ∀ {ds : List D}, ds.all (D.tupI 3) = true → ∃ ps : List I3, ds = ps.map d3
  | [], _ => ⟨[], rfl⟩
  | d :: ds, h => by
    rw [List.all_cons, Bool.and_eq_true] at h
    obtain ⟨p, rfl⟩ := tupI_d3 h.1
    obtain ⟨ps, rfl⟩ := all_d3 h.2
    exact ⟨p :: ps, rfl⟩
def undo3 (d : D) : I3 := match d.tupIs with | [a, b, c] => (a, b, c) | _ => (0, 0, 0)
theorem undo_map (ps : List I3) : (ps.map d3).map undo3 = ps := by
  rw [List.map_map]
  exact (List.map_congr_left fun p _ => rfl).trans (List.map_id ps)
theorem rep_map {T : Tb} {A : Hp} {f : V → D} : ∀ {ys : List V}, (∀ y ∈ ys, Rep T A y (f y)) → RepA T A ys (ys.map f)
  | [], _ => .nil
  | y :: ys, h => .cons (h y List.mem_cons_self) (rep_map fun z hz => h z (List.mem_cons_of_mem _ hz))
section
variable [TabC]
theorem snd_srt {G : Gt} {C : Ct} {N : List Str} {sc : Scope} {X : Cx} {Γ : List OT} (F : XF G C N sc X) {p pos : Pos} {e : Expr} {as : IE} (hg : glB sc "sorted" = true) (hin : ("sorted" : Str) ∈ G.bl) (hA : chkA G N sc as [e] = true) (ha : PA X [e] (rA C Γ (tyL G Γ as) as)) :
    PE X (.Call (.Name "sorted" p) [e] [] pos) (rE C Γ (.ol .fz) (.x .srt as)) := by
  obtain ⟨p1, p2⟩ := tail_plain (chkA_plain hA)
  refine PE.imp (pe_callB cr_srt3 (F.gl hg) (F.ff.bl _ hin) (by decide +kernel) ha (by decide) (by decide) (star_plain p1 _ _) (back_plain p2)) fun σ H Q h => ?_
  refine rA_imp (aft_all rfl σ H Q h) fun vs H2 ⟨ds, c, fs, env, σ2, so, sm, ra, q⟩ => ?_
  cases ra with
  | nil => exact q.elim
  | cons r t =>
    cases t with
    | cons _ _ => cases r <;> exact q.elim
    | nil =>
      cases r with
      | @lst a xs ds' hv rx =>
        have q : Pst C.EX (fun d => ∀ v H', Ev H2 H' → RO C.T c (.ol .fz) fs.flatten H2 H' v d → Q v H') (if (decide (ds'.length < 64) && ds'.all (D.tupI 3)) = true then .ok (.lst (srtT ds')) else .bad) := q
        split at q
        · rename_i hb
          obtain ⟨ps, rfl⟩ := all_d3 (and2 hb).2
          have hv2 := (msk_some.mp hv).2
          have item : ∀ (i : Nat) (x : V) (p : I3), xs[i]? = some x → ps[i]? = some p → Rep C.T (c.A H2 fs.flatten) x (d3 p) := fun i x p h1 h2 => by
            obtain ⟨v, g1, g2⟩ := rx.get (i := i) (d := d3 p) (by rw [List.getElem?_map, h2]; rfl)
            rw [h1] at g1
            cases g1
            exact g2
          have hl : xs.length = ps.length := by have := rx.length; rw [List.length_map] at this; exact this
          rw [F.K]
          refine ⟨a, xs, ps, rfl, .of hv2, hl, fun i x p h1 h2 => ?_, fun k ys p' ek hs hp np => ?_⟩
          · have r := item i x p h1 h2
            cases r with
            | @tup t vs3 _ hq r3 =>
              have e3 : vs3 = v3 p := RepA.ints (ns := [p.1, p.2.1, p.2.2]) r3
              rw [e3] at hq
              exact ⟨t, rfl, seqT msk_same hq⟩
          · have rys : RepA C.T (c.A H2 fs.flatten) ys (ys.map fun y => d3 (k y)) := rep_map fun y hy => by
              obtain ⟨i, hi, e⟩ := List.getElem_of_mem (hp.mem_iff.mp hy)
              have e1 : xs[i]? = some y := by rw [List.getElem?_eq_getElem hi, e]
              exact item i y (k y) e1 (by rw [ek, List.getElem?_map, e1]; rfl)
            obtain ⟨rs, g1, g2⟩ := srtT_map ps
            have pr : rs.Perm ps := by
              have := (srtT_perm (ps.map d3)).map undo3
              rw [g1, undo_map, undo_map] at this
              exact this
            have pk : (ys.map k).Perm ps := by rw [ek]; exact hp.map k
            have e : ys.map k = rs := sorted_one (List.pairwise_map.mpr hs) g2 (pk.trans pr.symm)
            have e2 : srtT (ps.map d3) = ys.map fun y => d3 (k y) := by rw [g1, ← e, List.map_map]; rfl
            rw [e2] at q
            exact q _ _ (same_upd np) (RO.mkL so (Ev.refl H2) np rys)
        · exact q.elim
      | _ => exact q.elim
end
end Pv

/-! Pv, part Xs: every operation, every statement of its own is sound. -/
namespace Pv
open PySem PySem.Spec PyProof.Rows L2
variable [TabC]
theorem optsome {α : Type} {b : Bool} {a x : α} (h : (if b = true then some a else none) = some x) : b = true ∧ x = a := by
  split at h
  · rename_i e; cases h; exact ⟨e, rfl⟩
  · cases h
section
variable {G : Gt} {C : Ct} {N : List Str} {sc : Scope} {X : Cx} {Γ : List OT}
theorem idxD_some {x : D} : ∀ {ds : List D} {n k : Nat}, idxD x ds n = some k → ∃ j d, k = n + j ∧ ds[j]? = some d ∧ D.eqv d x = true ∧ ∀ m d', m < j → ds[m]? = some d' → D.eqv d' x = false
  | [], n, k, h => by cases h
  | d :: ds, n, k, h => by
    have h : (if D.eqv d x then some n else idxD x ds (n + 1)) = some k := h
    split at h
    · rename_i e
      cases h
      exact ⟨0, d, rfl, rfl, e, fun m d' hm => absurd hm (Nat.not_lt_zero _)⟩
    · rename_i e
      obtain ⟨j, d1, e1, e2, e3, e4⟩ := idxD_some h
      refine ⟨j + 1, d1, by omega, by simpa using e2, e3, fun m d' hm hd => ?_⟩
      cases m with
      | zero =>
        cases hd
        simpa using e
      | succ m => exact e4 m d' (by omega) (by simpa using hd)
theorem snd_lidx (F : XF G C N sc X) {o e : Expr} {apos pos : Pos} {a as : IE} {ta : OT} (hs : noSup o = true) (hl : (apos.endLine == pos.line) = true) (hA : chkA G N sc as [e] = true) (ho : PE X o (rE C Γ ta a)) (ha : PA X [e] (rA C Γ (tyL G Γ as) as)) :
    PE X (.Call (.Attribute o "index" apos) [e] [] pos) (rE C Γ .fz (.x .lidx (.cons a as))) := by
  obtain ⟨p1, p2⟩ := tail_plain (chkA_plain hA)
  have hst := star_plain p1 [] X.env
  refine PE.imp (pe_bm (X := X) (apos := apos) (cpos := pos) PySem.F.plainAttrs_list PySem.F.slot_list_index PySem.F.type_list_index mt_index ho ha (attrB hs) (by rw [hst]; rfl) hl hst rfl) fun σ H Q h => ?_
  obtain ⟨c, fs, env, so, sm, p⟩ := h
  have p : Pst C.EX (fun d => ∀ v H', Ev H H' → RO C.T c .fz fs.flatten H H' v d → Q v H') (preX .lidx (ev C.S env a) (argD (consD (ev C.S env a) (ev C.S env as)) (xopD C.S .lidx))) := p
  refine ⟨c, fs, env, so, sm, ?_⟩
  cases e1 : ev C.S env a with
  | bad => rw [e1] at p; cases e2 : ev C.S env as <;> (rw [e2] at p; exact p.elim)
  | ex k es => rw [e1] at p; cases e2 : ev C.S env as <;> (rw [e2] at p; exact p)
  | ok d =>
    rw [e1] at p
    cases d with
    | lst ds =>
      have p : Pst C.EX (fun d => ∀ v H', Ev H H' → RO C.T c .fz fs.flatten H H' v d → Q v H') (argD (consD (.ok (.lst ds)) (ev C.S env as)) (xopD C.S .lidx)) := p
      intro v H1 s1 r1
      have rl := r1.rep so
      cases rl with
      | @lst q vs _ hq hv =>
        refine ⟨.inl ⟨rfl, _, .of (msk_some.mp hq).2⟩, rA_imp (aft_cons so sm s1 r1 p) fun us H2 ⟨ds2, c2, fs2, env2, σ2, so2, sm2, ra2, pp⟩ => ?_⟩
        cases ra2 with
        | cons r2 rr =>
          cases rr with
          | nil => exact pp.elim
          | @cons v3 x _ _ r3 rr =>
            cases rr with
            | cons _ _ => exact pp.elim
            | nil =>
              have pp : Pst C.EX (fun d => ∀ v H', Ev H2 H' → RO C.T c2 .fz fs2.flatten H2 H' v d → Q v H') (if (x.flat && ds.all D.flat) = true then (match idxD x ds 0 with | some n => .ok (.int n) | none => .bad) else .bad) := pp
              split at pp
              · rename_i hf
                obtain ⟨f1, f2⟩ := and2 hf
                cases r2 with
                | lst hq2 hv2 =>
                  rw [F.K]
                  cases e3 : idxD x ds 0 with
                  | none => rw [e3] at pp; exact pp.elim
                  | some k =>
                    rw [e3] at pp
                    obtain ⟨j, d1, e4, e5, e6, e7⟩ := idxD_some e3
                    obtain ⟨z, g1, g2⟩ := hv2.get e5
                    refine ⟨_, _, _, j, z, rfl, rfl, .of (msk_some.mp hq2).2, flat_v r3 f1, flat_all hv2 f2, g1, ?_, fun m z' hm hz => ?_, ?_⟩
                    · rw [eqv_v g2 r3 (List.all_eq_true.mp f2 _ (List.mem_of_getElem? e5)) f1]; exact e6
                    · obtain ⟨d', y1, y2⟩ := item_at hv2 hz
                      rw [eqv_v y2 r3 (List.all_eq_true.mp f2 _ (List.mem_of_getElem? y1)) f1]
                      exact e7 m d' hm y1
                    · have := pp (.int (k : Int)) H2 (Ev.refl _) .mkInt
                      rw [e4] at this
                      simpa using this
              · exact pp.elim
    | _ => exact p.elim
theorem two_args {as : IE} {x y : Expr} (h : chkA G N sc as [x, y] = true) : ∃ a b, as = .cons a (.cons b .nil) ∧ chkE G N sc a x = true ∧ chkE G N sc b y = true := by
  cases as with
  | cons a r =>
    simp only [chkA, Bool.and_eq_true] at h
    cases r with
    | cons b r =>
      simp only [chkA, Bool.and_eq_true] at h
      have := chkA_nil h.2.2
      subst this
      exact ⟨a, b, rfl, h.1.2, h.2.1.2⟩
    | _ => simp [chkA] at h
  | _ => simp [chkA] at h
omit [TabC] in
theorem xsB_of {l : List (Str × Str × Bool)} {c q : Str} {b : Bool} (h : xsB l c q b = true) : (c, q, b) ∈ l := by
  unfold xsB at h
  rw [List.any_eq_true] at h
  obtain ⟨⟨x, y, z⟩, hp, e⟩ := h
  simp only [Bool.and_eq_true, decide_eq_true_eq] at e
  obtain ⟨⟨rfl, rfl⟩, rfl⟩ := e
  exact hp
theorem xop_ok : XopOk := by
  intro G N sc o x as es hm m hA C X Γ F ok h
  have ok' : okE Γ as = true := ok
  have val : ∀ {t : OT}, tyE G Γ (.x o as) = t → valB x = true → PE X x (rE C Γ t (.x o as)) → PE X x (rE C Γ (tyE G Γ (.x o as)) (.x o as)) ∧ PT X x (rT C Γ (.x o as)) := fun {t} e hv p => by
    rw [e]
    exact both hv p
  cases o with
  | fld f cs =>
    cases x <;> first | (cases hm; done) | skip
    rename_i e g pos
    obtain ⟨hb, rfl⟩ := optsome hm
    simp only [Bool.and_eq_true, decide_eq_true_eq] at hb
    obtain ⟨⟨⟨rfl, h1⟩, h2⟩, h3⟩ := hb
    cases as with
    | cons a r =>
      have e0 := chkA_nil (show chkA G N sc r [] = true by simp only [chkA, Bool.and_eq_true] at hA; exact hA.2)
      subst e0
      simp only [chkA, Bool.and_eq_true] at hA
      exact val rfl rfl (snd_fld F h1 (fun c hc => pairB_of (List.all_eq_true.mp h3 c hc)) (m.2.1 F (and2 ok').1 hA.1.2).1)
    | _ => simp [chkA] at hA
  | prp f js =>
    cases x <;> first | (cases hm; done) | skip
    rename_i e g pos
    obtain ⟨hb, rfl⟩ := optsome hm
    simp only [Bool.and_eq_true, decide_eq_true_eq, Bool.not_eq_true'] at hb
    obtain ⟨⟨⟨⟨⟨h0, rfl⟩, h1⟩, h2⟩, h4⟩, h3⟩ := hb
    cases as with
    | cons a r =>
      have e0 := chkA_nil (show chkA G N sc r [] = true by simp only [chkA, Bool.and_eq_true] at hA; exact hA.2)
      subst e0
      simp only [chkA, Bool.and_eq_true] at hA
      exact val rfl rfl (snd_prp F h4 (fun z => by rw [z] at h0; cases h0) h1 (fun p hp => by
        have := List.all_eq_true.mp h3 p hp
        simp only [Bool.and_eq_true, decide_eq_true_eq] at this
        exact ⟨this.1.1, this.1.2, trpB_of this.2⟩) (m.2.1 F (and2 ok').1 hA.1.2).1)
    | _ => simp [chkA] at hA
  | mth n js =>
    cases x <;> first | (cases hm; done) | skip
    rename_i fe es' kws pos
    cases fe <;> first | (cases hm; done) | skip
    cases kws <;> first | (cases hm; done) | skip
    rename_i o g ap
    obtain ⟨hb, rfl⟩ := optsome hm
    simp only [Bool.and_eq_true, decide_eq_true_eq, Bool.not_eq_true'] at hb
    obtain ⟨⟨⟨⟨⟨⟨⟨h0, rfl⟩, h1⟩, h2⟩, h4⟩, h5⟩, h6⟩, h3⟩ := hb
    cases as with
    | cons a r =>
      simp only [chkA, Bool.and_eq_true] at hA
      exact val rfl rfl (snd_mth F h4 (fun z => by rw [z] at h0; cases h0) h1 h5 h6 hA.2 (fun p hp => by
        have := List.all_eq_true.mp h3 p hp
        simp only [Bool.and_eq_true, decide_eq_true_eq] at this
        exact ⟨this.1.1, this.1.2, trpB_of this.2⟩) (m.2.1 F (and2 ok').1 hA.1.2).1 (paMA F m.2.2 (and2 ok').2 hA.2))
    | _ => simp [chkA] at hA
  | mk cn j =>
    cases x <;> first | (cases hm; done) | skip
    rename_i fe es' kws pos
    cases fe <;> first | (cases hm; done) | skip
    cases kws <;> first | (cases hm; done) | skip
    obtain ⟨hb, rfl⟩ := optsome hm
    simp only [Bool.and_eq_true, decide_eq_true_eq] at hb
    obtain ⟨⟨⟨⟨⟨⟨h0, h1⟩, h2⟩, h3⟩, hpl⟩, h4⟩, h5⟩ := hb
    exact val rfl rfl (snd_mk F h3 h0 h1 h2 hpl h4 (mkB_of h5) hA (m.1 F ok' hA))
  | kmk cn j n ks ds =>
    cases x <;> first | (cases hm; done) | skip
    rename_i fe es' kws pos
    cases fe <;> first | (cases hm; done) | skip
    obtain ⟨hb, rfl⟩ := optsome hm
    simp only [Bool.and_eq_true, decide_eq_true_eq] at hb
    obtain ⟨⟨⟨⟨⟨⟨⟨⟨⟨h0, h1⟩, h2⟩, h3⟩, h4⟩, h5⟩, h6⟩, h7⟩, h8⟩, h9⟩ := hb
    exact val rfl rfl (snd_kmk F h3 h0 h6 h1 h2 h4 (mkB_of h5) h7 (shB_of h9) m.2 ok' hA)
  | kcall j n ks ds =>
    cases x <;> first | (cases hm; done) | skip
    rename_i fe es' kws pos
    cases fe <;> first | (cases hm; done) | skip
    obtain ⟨hb, rfl⟩ := optsome hm
    simp only [Bool.and_eq_true, decide_eq_true_eq] at hb
    obtain ⟨⟨⟨⟨⟨⟨⟨⟨⟨⟨h1, h2⟩, h3⟩, h4⟩, h5⟩, h6⟩, h7⟩, h8⟩, h9⟩, h10⟩, h11⟩ := hb
    exact val rfl rfl (snd_kcall F h3 h7 h8 h1 h2 h4 h5 (inB_of h6) h9 (shB_of h11) m.2 ok' hA)
  | obc js =>
    cases x <;> first | (cases hm; done) | skip
    rename_i fe es' kws pos
    cases es' <;> cases kws <;> first | (cases hm; done) | skip
    rename_i e es'
    obtain ⟨hb, rfl⟩ := optsome hm
    simp only [Bool.and_eq_true, decide_eq_true_eq, Bool.not_eq_true'] at hb
    obtain ⟨⟨⟨⟨h0, h1⟩, h2⟩, h4⟩, h3⟩ := hb
    cases as with
    | cons a r =>
      have hA' : plainX fe = true ∧ chkE G N sc a fe = true ∧ chkA G N sc r (e :: es') = true := by
        have : (plainX fe && chkE G N sc a fe && chkA G N sc r (e :: es')) = true := hA
        simp only [Bool.and_eq_true] at this
        exact ⟨this.1.1, this.1.2, this.2⟩
      exact val rfl rfl (snd_obc F h4 (fun z => by rw [z] at h0; cases h0) h1 hA'.2.2 (fun p hp => by
        have := List.all_eq_true.mp h3 p hp
        simp only [Bool.and_eq_true, decide_eq_true_eq] at this
        exact ⟨this.1.1, this.1.2, trpB_of this.2⟩) (m.2.1 F (and2 ok').1 hA'.2.1).1 (paMA F m.2.2 (and2 ok').2 hA'.2.2))
    | _ => simp [chkA] at hA
  | inO neg js =>
    cases x <;> first | (cases hm; done) | skip
    rename_i e ops ys pos
    obtain ⟨op, y, rfl, rfl⟩ : ∃ op y, ops = [op] ∧ ys = [y] := by
      cases ops with
      | nil => cases hm
      | cons op l =>
        cases l with
        | cons _ _ => cases hm
        | nil =>
          cases ys with
          | nil => cases hm
          | cons y l =>
            cases l with
            | cons _ _ => cases hm
            | nil => exact ⟨op, y, rfl, rfl⟩
    obtain ⟨hb, rfl⟩ := optsome hm
    simp only [Bool.and_eq_true, decide_eq_true_eq] at hb
    obtain ⟨⟨⟨h0, h1⟩, h2⟩, h3⟩ := hb
    obtain ⟨a, b, rfl, c1, c2⟩ := two_args hA
    exact snd_inO F h2 h0 h1 (fun p hp => by
        have := List.all_eq_true.mp h3 p hp
        simp only [Bool.and_eq_true, decide_eq_true_eq] at this
        exact ⟨this.1.1, this.1.2, trpB_of this.2⟩) (m.2.1 F (and2 ok').1 c1).1 (m.2.2.1 F (and2 (and2 ok').2).1 c2).1
  | inS neg =>
    cases x <;> first | (cases hm; done) | skip
    rename_i e ops ys pos
    obtain ⟨op, y, rfl, rfl⟩ : ∃ op y, ops = [op] ∧ ys = [y] := by
      cases ops with
      | nil => cases hm
      | cons op l =>
        cases l with
        | cons _ _ => cases hm
        | nil =>
          cases ys with
          | nil => cases hm
          | cons y l =>
            cases l with
            | cons _ _ => cases hm
            | nil => exact ⟨op, y, rfl, rfl⟩
    obtain ⟨hb, rfl⟩ := optsome hm
    simp only [Bool.and_eq_true, decide_eq_true_eq] at hb
    obtain ⟨h0, h1⟩ := hb
    obtain ⟨a, b, rfl, c1, c2⟩ := two_args hA
    exact snd_inS F h0 h1 (m.2.1 F (and2 ok').1 c1).1 (m.2.2.1 F (and2 (and2 ok').2).1 c2).1
  | lcm =>
    cases x <;> first | (cases hm; done) | skip
    rename_i fe es' kws pos
    cases fe <;> first | (cases hm; done) | skip
    obtain ⟨a, b, rfl⟩ : ∃ a b, es' = [a, b] := by
      cases es' with
      | nil => (cases kws <;> cases hm)
      | cons a l =>
        cases l with
        | nil => (cases kws <;> cases hm)
        | cons b l =>
          cases l with
          | cons _ _ => (cases kws <;> cases hm)
          | nil => exact ⟨a, b, rfl⟩
    cases kws <;> first | (cases hm; done) | skip
    obtain ⟨hb, rfl⟩ := optsome hm
    simp only [Bool.and_eq_true, decide_eq_true_eq] at hb
    obtain ⟨⟨h0, rfl⟩, h2⟩ := hb
    exact val rfl rfl (snd_lcm F h0 h2 hA (m.1 F ok' hA))
  | srt =>
    cases x <;> first | (cases hm; done) | skip
    rename_i fe es' kws pos
    cases fe <;> first | (cases hm; done) | skip
    obtain ⟨a, rfl⟩ : ∃ a, es' = [a] := by
      cases es' with
      | nil => (cases kws <;> cases hm)
      | cons a l =>
        cases l with
        | cons _ _ => (cases kws <;> cases hm)
        | nil => exact ⟨a, rfl⟩
    cases kws <;> first | (cases hm; done) | skip
    obtain ⟨hb, rfl⟩ := optsome hm
    simp only [Bool.and_eq_true, decide_eq_true_eq] at hb
    obtain ⟨⟨rfl, h1⟩, h2⟩ := hb
    exact val rfl rfl (snd_srt F h1 (inB_of h2) hA (m.1 F ok' hA))
  | lidx =>
    cases x <;> first | (cases hm; done) | skip
    rename_i fe es' kws pos
    cases fe <;> first | (cases hm; done) | skip
    rename_i o g ap
    obtain ⟨e, rfl⟩ : ∃ a, es' = [a] := by
      cases es' with
      | nil => (cases kws <;> cases hm)
      | cons a l =>
        cases l with
        | cons _ _ => (cases kws <;> cases hm)
        | nil => exact ⟨a, rfl⟩
    cases kws <;> first | (cases hm; done) | skip
    obtain ⟨hb, rfl⟩ := optsome hm
    simp only [Bool.and_eq_true, decide_eq_true_eq] at hb
    obtain ⟨⟨⟨rfl, h1⟩, h2⟩, h3⟩ := hb
    cases as with
    | cons a r =>
      simp only [chkA, Bool.and_eq_true] at hA
      exact val rfl rfl (snd_lidx F h1 h3 hA.2 (m.2.1 F (and2 ok').1 hA.1.2).1 (paMA F m.2.2 (and2 ok').2 hA.2))
    | _ => simp [chkA] at hA
  | lcnt =>
    cases x <;> first | (cases hm; done) | skip
    rename_i fe es' kws pos
    cases fe <;> first | (cases hm; done) | skip
    rename_i o g ap
    obtain ⟨e, rfl⟩ : ∃ a, es' = [a] := by
      cases es' with
      | nil => (cases kws <;> cases hm)
      | cons a l =>
        cases l with
        | cons _ _ => (cases kws <;> cases hm)
        | nil => exact ⟨a, rfl⟩
    cases kws <;> first | (cases hm; done) | skip
    obtain ⟨hb, rfl⟩ := optsome hm
    simp only [Bool.and_eq_true, decide_eq_true_eq] at hb
    obtain ⟨⟨⟨rfl, h1⟩, h2⟩, h3⟩ := hb
    cases as with
    | cons a r =>
      simp only [chkA, Bool.and_eq_true] at hA
      exact val rfl rfl (snd_lcnt F h1 h3 hA.2 (m.2.1 F (and2 ok').1 hA.1.2).1 (paMA F m.2.2 (and2 ok').2 hA.2))
    | _ => simp [chkA] at hA
  | isC q yes =>
    cases x <;> first | (cases hm; done) | skip
    rename_i fe es' kws pos
    cases fe <;> first | (cases hm; done) | skip
    obtain ⟨e, n, np, rfl⟩ : ∃ e n np, es' = [e, .Name n np] := by
      cases es' with
      | nil => (cases kws <;> cases hm)
      | cons a l =>
        cases l with
        | nil => (cases kws <;> cases hm)
        | cons b l =>
          cases l with
          | cons _ _ => (cases kws <;> cases b <;> cases hm)
          | nil => cases b <;> first | exact ⟨_, _, _, rfl⟩ | (cases kws <;> cases hm)
    cases kws <;> first | (cases hm; done) | skip
    obtain ⟨hb, rfl⟩ := optsome hm
    simp only [Bool.and_eq_true, decide_eq_true_eq, Bool.not_eq_true'] at hb
    obtain ⟨⟨⟨⟨⟨⟨⟨⟨rfl, h1⟩, h2⟩, rfl⟩, h4⟩, h5⟩, h6⟩, h7⟩, h8⟩ := hb
    cases as with
    | cons a r =>
      simp only [chkA, Bool.and_eq_true] at hA
      have er := chkA_nil hA.2
      subst er
      exact val rfl rfl (snd_isC F h7 h1 (inB_of h2) h4 h5 (fun c hc => xsB_of (List.all_eq_true.mp h8 c hc)) h6 (m.2.1 F (and2 ok').1 hA.1.2).1)
    | _ => simp [chkA] at hA
  | _ => cases hm
end
end Pv

/-! Pv, part Sx: stores into an object, raise, pop. -/
namespace Pv
open PySem PySem.Spec PyProof.Rows L2
variable [TabC]
theorem putF_names (f : Str) (y : V) : ∀ fl : List (Str × V), (putF f y fl).map (·.1) = putN f (fl.map (·.1))
  | [] => rfl
  | (g, x) :: r => by
    show ((if g = f then (g, y) :: r else (g, x) :: putF f y r).map (·.1)) = if g = f then g :: r.map (·.1) else g :: putN f (r.map (·.1))
    split
    · rfl
    · rw [List.map_cons, putF_names f y r]
theorem OwnL.put {T : Tb} {A H : Hp} {t : OT} {f0 : List Addr} {f : Str} {y : V} {d : D} (o : Own T A H t f0 y d) : ∀ {fl : List (Str × V)} {ts : List OT} {g : List Addr} {ds : List D}, OwnL T A H ts g (fl.map (·.2)) ds →
    ∃ g', OwnL T A H (putD f t (fl.map (·.1)) ts) g' ((putF f y fl).map (·.2)) (putD f d (fl.map (·.1)) ds) ∧ (∀ a ∈ g', a ∈ g ∨ a ∈ f0) ∧ (g.Nodup → f0.Nodup → (∀ a ∈ g, a ∉ f0) → g'.Nodup)
  | [], ts, g, ds, h => by
    cases h
    refine ⟨f0 ++ [], .cons o .nil, fun a ha => .inr (by simpa using ha), fun _ n _ => by simpa using n⟩
  | (n, x) :: fl, ts, g, ds, h => by
    cases h with
    | @cons t1 ts f1 g1 _ _ d1 ds o1 ol =>
      by_cases e : n = f
      · have e1 : putD f t ((n, x) :: fl |>.map (·.1)) (t1 :: ts) = t :: ts := if_pos e
        have e2 : putD f d ((n, x) :: fl |>.map (·.1)) (d1 :: ds) = d :: ds := if_pos e
        have e3 : (putF f y ((n, x) :: fl)).map (·.2) = y :: fl.map (·.2) := by
          show (if n = f then (n, y) :: fl else _).map (·.2) = _
          rw [if_pos e]; rfl
        rw [e1, e2, e3]
        refine ⟨f0 ++ g1, .cons o ol, fun a ha => (List.mem_append.mp ha).elim .inr fun z => .inl (List.mem_append_right _ z), fun n1 n2 k => ?_⟩
        have n1' := List.nodup_append.mp n1
        exact List.nodup_append.mpr ⟨n2, n1'.2.1, fun a ha b hb e => by subst e; exact k a (List.mem_append_right _ hb) ha⟩
      · have e1 : putD f t ((n, x) :: fl |>.map (·.1)) (t1 :: ts) = t1 :: putD f t (fl.map (·.1)) ts := if_neg e
        have e2 : putD f d ((n, x) :: fl |>.map (·.1)) (d1 :: ds) = d1 :: putD f d (fl.map (·.1)) ds := if_neg e
        have e3 : (putF f y ((n, x) :: fl)).map (·.2) = x :: (putF f y fl).map (·.2) := by
          show (if n = f then (n, y) :: fl else (n, x) :: putF f y fl).map (·.2) = _
          rw [if_neg e]; rfl
        rw [e1, e2, e3]
        obtain ⟨g', h1, h2, h3⟩ := OwnL.put o ol
        refine ⟨f1 ++ g', .cons o1 h1, fun a ha => (List.mem_append.mp ha).elim (fun z => .inl (List.mem_append_left _ z)) fun z => (h2 a z).imp (List.mem_append_right _) id, fun n1 n2 k => ?_⟩
        have n1' := List.nodup_append.mp n1
        refine List.nodup_append.mpr ⟨n1'.1, h3 n1'.2.1 n2 fun a ha => k a (List.mem_append_right _ ha), fun a ha b hb e => ?_⟩
        subst e
        rcases h2 a hb with z | z
        · exact n1'.2.2 a ha a z rfl
        · exact k a (List.mem_append_left _ ha) z
section
variable {T : Tb} {c : Cfg} {Γ : List OT} {fs : List (List Addr)} {Hb H : Hp} {σ : L2.St} {env : Env}
/-- an own object is changed in place, and given what was made since Hb -/
theorem SO.write2 (so : SO T c Γ fs Hb σ env) (s : Ev Hb H) {i : Nat} {t t' : OT} {f f0 g : List Addr} {v : V} {d : D} {p : Addr} {o0 ob : HO} (hf : fs[i]? = some f) (hp : p ∈ f) (ho : H p = some o0) (pl : Pln o0) (n0 : New Hb f0) (hg : ∀ a ∈ g, a ∈ f ∨ a ∈ f0) (ng : g.Nodup)
    (hσ : σ[i]? = some (some v)) (hΓ : Γ[i]? = some t) (hoi : t'.isOi = true → t.isOi = true)
    (o : Own T (c.A (upd H p ob) (fs.set i g).flatten) (upd H p ob) t' g v d) : SO T c (Γ.set i t') (fs.set i g) (upd H p ob) σ (env.set i (some d)) ∧ Same (c.A Hb fs.flatten) (c.A (upd H p ob) (fs.set i g).flatten) := by
  have hm : ∀ a ∈ f, a ∈ fs.flatten := fun a ha => List.mem_flatten.mpr ⟨f, List.mem_of_getElem? hf, ha⟩
  obtain ⟨n1, n2, n3⟩ := so.new n0
  have e2 : Same (c.A Hb fs.flatten) (c.A (upd H p ob) (fs.set i g).flatten) := by
    have key : ∀ {a : Addr} {x : HO}, c.A Hb fs.flatten a = some x → a ≠ p ∧ ¬ (c.U a ∨ a ∈ (fs.set i g).flatten) := fun {a x} h => by
      obtain ⟨h1, h2⟩ := msk_some.mp h
      refine ⟨fun e => h1 (.inr (by rw [e]; exact hm p hp)), fun z => ?_⟩
      rcases z with z | z
      · exact h1 (.inl z)
      · rcases flat_set z with z | z
        · rcases hg a z with z | z
          · exact h1 (.inr (hm a z))
          · have := n0 a z
            rw [this] at h2; cases h2
        · exact h1 (.inr z)
    refine ⟨fun h n => ?_, fun h => ?_⟩
    · obtain ⟨k1, k2⟩ := key h
      exact msk_some.mpr ⟨k2, by rw [upd_ne k1]; exact s.at_ (msk_some.mp h).2 n⟩
    · obtain ⟨k1, k2⟩ := key h
      obtain ⟨ps', z⟩ := s.tb (msk_some.mp h).2
      exact ⟨ps', msk_some.mpr ⟨k2, by rw [upd_ne k1]; exact z⟩⟩
  have sl1 : Sl T (c.A (upd H p ob) (fs.set i g).flatten) (upd H p ob) (Γ.set i .fz) (fs.set i []) (σ.set i none) (env.set i none) := by
    refine (so.sl.unset i).mono e2 fun a ha q n h => ?_
    rw [upd_ne]
    · exact s.at_ h n
    · intro e
      subst e
      exact flat_out so.nd hf a hp ha
  have sl2 := sl1.set o i
  rw [List.set_set, List.set_set, List.set_set, List.set_set] at sl2
  rw [show σ.set i (some v) = σ from List.ext_getElem? fun j => by
    by_cases e : i = j
    · subst e
      rw [List.getElem?_set_self (List.getElem?_eq_some_iff.mp hσ).1, hσ]
    · rw [List.getElem?_set_ne e]] at sl2
  have nd : (fs.set i g).flatten.Nodup := by
    have h1 : (fs.set i []).flatten.Nodup := flat_nodup i so.nd List.nodup_nil (by simp)
    have h2 : (fs.set i g) = ((fs.set i []).set i g) := by simp
    rw [h2]
    refine flat_nodup i h1 ng fun a ha hb => ?_
    rcases hg a ha with z | z
    · exact flat_out so.nd hf a z hb
    · rcases flat_set hb with q | q
      · cases q
      · exact n2 a z q
  have sm := so.sm.mono s
  refine ⟨⟨sl2, nd, fun a ha => ?_, fun a ha => ?_, fun a h => ?_, ⟨fun {a q} h n k => ?_, fun {a ps} h => ?_, fun h => tabs_upd ho pl (sm.ta h)⟩, fun {t2 v2} hv hgt hoi2 => ?_⟩, e2⟩
  · rcases flat_set ha with z | z
    · rcases hg a z with z | z
      · exact so.fr a (hm a z)
      · by_cases k : a ∈ c.W0
        · exact .inr k
        · exact .inl (n3 a z k)
    · exact so.fr a z
  · rcases flat_set ha with z | z
    · exact (hg a z).elim (fun z => so.un a (hm a z)) (n1 a)
    · exact so.un a z
  · by_cases e : a = p
    · subst e; rw [upd_same]; simp
    · rw [upd_ne e]; exact s.some (so.dm a h)
  · rw [upd_ne]
    · exact sm.at_ h n k
    · intro e
      subst e
      rcases so.fr a (hm a hp) with z | z
      · rw [z] at h; cases h
      · exact k z
  · obtain ⟨ps', z⟩ := sm.tb h
    refine ⟨ps', ?_⟩
    rw [upd_ne]
    · exact z
    · intro e
      rw [e, ho] at z
      cases z
      exact pl.nt _ rfl
  · rcases get_set hgt with ⟨e, q⟩ | ⟨e, q⟩
    · subst e q
      obtain ⟨z1, d', z2⟩ := so.sf hv hΓ (hoi hoi2)
      exact ⟨z1, d, by rw [List.getElem?_set_self (List.getElem?_eq_some_iff.mp z2).1]⟩
    · rw [List.getElem?_set_ne e]
      exact so.sf hv q hoi2
end
section
variable {G : Gt} {C : Ct} {N : List Str} {sc : Scope} {fb : Str → Bool} {X : Cx} {Γ Γl : List OT} {rt : Rt}
theorem oiB_of {t : OT} (h : oiB t = true) : ∃ ns ts, t = .oi ns ts ∧ ns.length = ts.length := by
  unfold oiB at h
  split at h
  · exact ⟨_, _, rfl, by simpa using h⟩
  · cases h
theorem snd_fst (F : SF G C N sc fb X) {c : Str} {i : Nat} {f : Str} {t : OT} {e : IE} {x : Str} {v : Expr} {p p2 pos : Pos} (hN : N[i]? = some x) (hv : visB sc x = true) (hk : okN x = true) (hz : oiB ((Γ[i]?).getD .fz) = true) (hna : (c, f) ∈ G.na) (hf : fitE G Γ t e = true)
    (hc : chkE G N sc e v = true) (hl : noLc v = true) : PS X (.Assign [.Attribute (.Name x p) f p2] v pos) (rS C rt Γl Γ (.x (.fst c i f t) (.cons e .nil))) := by
  obtain ⟨o1, o2, o3⟩ := okN_of hk
  obtain ⟨ok, fit⟩ := fit_ro (C := C) hf
  obtain ⟨ns, ts, et, hlen⟩ := oiB_of hz
  have hsw : swapsWith v (some (.Attribute (.Name x p) f p2)) pos.line X.env = pure false := sw_no hl _ _ _
  refine PS.imp (ps_fld (pe_var (i := i) (by rw [F.xf.N]; exact hN) (F.xf.vis hv) o1 o2) (snd_e xop_ok F.xf ok hc).1 hsw) fun D σ H q => ?_
  obtain ⟨fs, env, so, pf⟩ := q
  have pf : PF C rt (outX Γ (.fst c i f t)) Γl (C.xc.A H fs.flatten) D (argF (consD (ev C.S env e) (.ok (.tup []))) (sopD env (.fst c i f t))) := pf
  refine ⟨_, fs, env, so, so.sm, ?_⟩
  cases ee : ev C.S env e with
  | bad => rw [ee] at pf; exact pf
  | ex k es => rw [ee] at pf; exact pf
  | ok d =>
    rw [ee] at pf
    intro y H1 s1 r1
    have pf : PF C rt (outX Γ (.fst c i f t)) Γl (C.xc.A H fs.flatten) D (match env[i]? with
      | some (some (.obj c' ns ds)) => if c' = c ∧ ns.length < 900 then .nx (env.set i (some (.obj c (putN f ns) (putD f d ns ds)))) else .bad
      | _ => .bad) := pf
    split at pf
    · rename_i c' ns' ds el
      split at pf
      · rename_i hcond
        obtain ⟨rfl, hn9⟩ := hcond
        obtain ⟨u, t', f1, h1, h2, h3, o⟩ := so.sl.get el
        have ett : t' = .oi ns ts := by rw [h2] at et; exact et
        subst ett
        cases o with
        | @oi _ _ f2 q C' dx fl _ _ hq hcl hns ol =>
          obtain ⟨f0, nf0, nw0, o0⟩ := fit so r1
          obtain ⟨C2, k1, k2, k3⟩ := F.xf.ff.na _ hna
          rw [hcl] at k1
          cases k1
          have hq1 : H1 q = some (.ins C' dx fl) := s1.ins hq
          refine ⟨.ref q, h1, q, C', dx, fl, rfl, hq1, by rw [F.xf.K]; exact k2, by rw [F.xf.K]; exact k3, ?_, ?_⟩
          · have : fl.length = ns.length := by rw [← hns, List.length_map]
            omega
          · -- what it owns now
            have hm : ∀ a ∈ q :: f2, a ∈ fs.flatten := fun a ha => List.mem_flatten.mpr ⟨_, List.mem_of_getElem? h3, ha⟩
            have nd1 := List.nodup_cons.mp (flat_one so.nd h3)
            obtain ⟨n1, n2, n3⟩ := so.new nw0
            obtain ⟨g', g1, g2, g3⟩ := OwnL.put (f := f) o0 (ol.mono (A' := C.xc.A H1 (fs.flatten ++ f0)) (H' := H1) (Cfg.A_grow s1 fun a z => (List.mem_append.mp z).imp id (nw0 a)) fun a _ o n h => s1.at_ h n)
            have hqf0 : q ∉ f0 := fun z => n2 q z (hm q List.mem_cons_self)
            have hqg : q ∉ g' := fun z => (g2 q z).elim nd1.1 hqf0
            have ndg : g'.Nodup := g3 nd1.2 nf0 fun a ha z => n2 a z (hm a (List.mem_cons_of_mem _ ha))
            have hgs : ∀ a ∈ q :: g', a ∈ q :: f2 ∨ a ∈ f0 := fun a ha => (List.mem_cons.mp ha).elim (fun z => .inl (by rw [z]; exact List.mem_cons_self)) fun z => (g2 a z).imp (List.mem_cons_of_mem _) id
            have sA : Same (C.xc.A H1 (fs.flatten ++ f0)) (C.xc.A (upd H1 q (.ins C' dx (putF f y fl))) (fs.set i (q :: g')).flatten) := Same.of2 fun a x h => by
              obtain ⟨z1, z2⟩ := msk_some.mp h
              refine msk_some.mpr ⟨fun z => z1 ?_, ?_⟩
              · rcases z with z | z
                · exact .inl z
                · rcases flat_set z with z | z
                  · exact .inr (List.mem_append.mpr ((hgs a z).imp (hm a) id))
                  · exact .inr (List.mem_append_left _ z)
              · rw [upd_ne fun e => z1 (.inr (List.mem_append_left _ (by rw [e]; exact hm q List.mem_cons_self)))]
                exact z2
            have w := so.write2 s1 (ob := .ins C' dx (putF f y fl)) (t' := .oi (putN f ns) (putD f t ns ts)) (g := q :: g') (d := .obj c' (putN f ns) (putD f d ns ds)) h3 List.mem_cons_self hq1 pln_ins nw0 hgs (List.nodup_cons.mpr ⟨hqg, ndg⟩) h1 h2 (fun _ => rfl) (by
              refine .oi upd_same hcl (by rw [putF_names, hns]) ?_
              have := g1.mono sA (H' := upd H1 q (.ins C' dx (putF f y fl))) fun a ha o _ h => by rw [upd_ne fun e => hqg (by rw [← e]; exact ha)]; exact h
              rwa [hns] at this)
            have eo : outX Γ (.fst c' i f t) = Γ.set i (.oi (putN f ns) (putD f t ns ts)) := by
              show (match (Γ[i]?).getD .fz with | .oi ns ts => Γ.set i (.oi (putN f ns) (putD f t ns ts)) | _ => Γ) = _
              rw [et]
            rw [eo] at pf
            exact pf _ _ _ w.1 w.2
      · exact pf.elim
    · exact pf.elim
theorem snd_rse (F : SF G C N sc fb X) {x : Str} {m : Str} {j : Nat} {p p2 p3 pos : Pos} (hg : glB sc x = true) (hk : okN x = true) (hx : x ∈ G.xo) (hcm : G.cm = true) : PS X (.Raise (some (.Call (.Name x p) [.Constant (.str m) j p2] [] p3)) none pos) (rS C rt Γl Γ (.x (.rse x) (.cons (.ct (.str m)) .nil))) := by
  obtain ⟨o1, o2, o3⟩ := okN_of hk
  obtain ⟨C', k1, k2, k3, k4, k5, k6⟩ := F.xf.ff.xo x hx
  rw [← F.xf.K] at k3 k4 k5 k6
  refine PS.imp (ps_raise (F.xf.calm hcm) F.tk (pmk_own PySem.F.excBase_ValueError k3 k2 k4 (raises_own k5 k6) (F.xf.gl hg) o1)) fun D σ H q => ?_
  obtain ⟨fs, env, so, pf⟩ := q
  have pf : C.EX x [] := pf
  exact ⟨x, [], ⟨C', rfl, k1, .inl ⟨rfl, rfl⟩⟩, so.sm, pf⟩
theorem RepA.dropLast {T : Tb} {H : Hp} {vs : List V} {ds : List D} (r : RepA T H vs ds) : RepA T H vs.dropLast ds.dropLast := by
  rw [List.dropLast_eq_take, List.dropLast_eq_take, r.length]
  exact r.take _
theorem snd_pop (F : SF G C N sc fb X) {i : Nat} {x : Str} {p ap cp pos : Pos} (hN : N[i]? = some x) (hv : visB sc x = true) (hk : okN x = true) (hz : (Γ[i]?).getD .fz = .ol .fz) (hl : (ap.endLine == cp.line) = true) :
    PS X (.Expr (.Call (.Attribute (.Name x p) "pop" ap) [] [] cp) pos) (rS C rt Γl Γ (.x (.pop i) .nil)) := by
  obtain ⟨o1, o2, o3⟩ := okN_of hk
  have pe := pe_bm0 (X := X) (apos := ap) (cpos := cp) PySem.F.plainAttrs_list PySem.F.slot_list_pop PySem.F.type_list_pop mt_pop (pe_var (i := i) (pos := p) (by rw [F.xf.N]; exact hN) (F.xf.vis hv) o1 o2) rfl hl
  refine PS.imp (ps_expr pe) fun D σ H q => ?_
  obtain ⟨fs, env, so, pf⟩ := q
  have pf : PF C rt Γ Γl (C.xc.A H fs.flatten) D (match env[i]? with
    | some (some (.lst (d :: ds))) => .nx (env.set i (some (.lst (d :: ds).dropLast)))
    | _ => .bad) := pf
  split at pf
  · rename_i d ds el
    obtain ⟨q, vs, h1, hq, ra, up⟩ := so.list hz el
    obtain ⟨so2, s2⟩ := up _ _ ra.dropLast
    have hlen := ra.length
    have hlast : vs[vs.length - 1]? = some (vs[vs.length - 1]'(by rw [hlen]; simp)) := List.getElem?_eq_getElem _
    exact ⟨.ref q, h1, .inl ⟨rfl, _, .of hq⟩, q, vs, _, rfl, rfl, hq, hlast, pf _ _ _ so2 s2⟩
  · exact pf.elim
theorem sop_ok : SopOk := by
  intro G N sc fb rt Γl Γ o as x es C X hm F ok hA
  unfold matS at hm
  split at hm
  · obtain ⟨hb, rfl⟩ := optsome hm
    simp only [Bool.and_eq_true, decide_eq_true_eq] at hb
    obtain ⟨⟨⟨⟨⟨⟨⟨⟨b1, b2⟩, b3⟩, b4⟩, b5⟩, b6⟩, b7⟩, b8⟩, b9⟩ := hb
    subst b1
    simp only [chkA, Bool.and_eq_true] at hA
    exact snd_fst F b2 b3 b4 b5 (pairB_of b6) b7 hA.1.2 b8
  · obtain ⟨hb, rfl⟩ := optsome hm
    simp only [Bool.and_eq_true, decide_eq_true_eq] at hb
    obtain ⟨⟨⟨⟨⟨b1, b2⟩, b3⟩, b4⟩, b5⟩, b6⟩ := hb
    subst b1 b6
    exact snd_rse F b2 b3 (inB_of b4) b5
  · obtain ⟨hb, rfl⟩ := optsome hm
    simp only [Bool.and_eq_true, decide_eq_true_eq] at hb
    obtain ⟨⟨⟨⟨⟨b1, b2⟩, b3⟩, b4⟩, b5⟩, b6⟩ := hb
    subst b1
    exact snd_pop F b2 b3 b4 (OT.beq_of b5) b6
  · cases hm
end
end Pv

/-! Pv, part R: each def of the text keeps its promise. -/
namespace Pv
open PySem PySem.Spec PyProof.Rows L2
variable [TabC]
/-- a def of the text: its name among the defs, where it stands, its own name and its full one, its statement, its parameters, the names of its slots, its small form, its defaults -/
structure DI where
  name : Str
  at_ : Str × Option Str
  nm : Str
  qual : Str
  st : Stmt
  ps : List Str
  N : List Str
  F : FD
  dv : List He.Dv := []
  kd : List (Str × He.Dv) := []
  /-- is it a getter of a property; may it be called by its places -/
  pp : Bool := false
  pl : Bool := true
  /-- is it called where an exception is handled; does it make lambdas -/
  hot : Bool := false
  la : Bool := false
/-- the full name of a def's lambda -/
def lamQ (qual : Str) : Str := qual ++ ".<locals>." ++ "<lambda>"
/-- the tables as the def may use them -/
def gD (G : Gt) (j : Nat) (d : DI) : Gt := if d.hot then { fn := [], ps := [], rt := [], bl := G.bl, gl := [], gc := false, lv := j, cm := false, xc := G.xc, xs := G.xs } else { G with lv := j, la := d.la }
def scpB (N P : List Str) (sc : Scope) : Bool := (match sc.kind with | .function => true | _ => false) && !sc.isCoroutine && !sc.isGenerator && decide N.Nodup && decide (N.take P.length = P) && P.all (fun x => match sc.names.lookup x with | some .local => true | some .cell => true | _ => false) &&
  sc.names.all (fun y => match y.2 with | .free => false | _ => true)
theorem scpB_ok {N P : List Str} {sc : Scope} (h : scpB N P sc = true) : FnScope N P sc := by
  unfold scpB at h
  simp only [Bool.and_eq_true, decide_eq_true_eq, List.all_eq_true, Bool.not_eq_true'] at h
  obtain ⟨⟨⟨⟨⟨⟨h1, h2⟩, h3⟩, h4⟩, h5⟩, h6⟩, h7⟩ := h
  refine ⟨?_, h2, h3, h4, h5, fun x hx => ?_, fun y hy e => ?_⟩
  · split at h1
    · assumption
    · cases h1
  · have := h6 x hx
    split at this
    · rename_i e; exact .inl e
    · rename_i e; exact .inr e
    · cases this
  · have := h7 y hy
    rw [e] at this
    cases this
def ltBeq : Option (OT × OT) → Option (OT × OT) → Bool
  | none, none => true
  | some a, some b => OT.beq a.1 b.1 && OT.beq a.2 b.2
  | _, _ => false
theorem ltBeq_of {a b : Option (OT × OT)} (h : ltBeq a b = true) : a = b := by
  cases a with
  | none => cases b <;> first | rfl | cases h
  | some a =>
    cases b with
    | none => cases h
    | some b =>
      obtain ⟨h1, h2⟩ := and2 h
      obtain ⟨a1, a2⟩ := a
      obtain ⟨b1, b2⟩ := b
      rw [show a1 = b1 from OT.beq_of h1, show a2 = b2 from OT.beq_of h2]
def FD.rt (F : FD) : Rt := ⟨F.ty, F.lt.map (·.2)⟩
def DI.Γ (d : DI) : List OT := match d.F.lt with
  | none => List.replicate d.N.length .fz
  | some (t, _) => t :: List.replicate (d.N.length - 1) .fz
def endB (F : FD) (Γ : List OT) : Bool := match F.lt with
  | none => F.ty.isFz || !ends F.body
  | some (t0, t) => F.ty.isFz && t0.isOi && t.isOi && (!ends F.body || OT.beq (((out Γ F.body)[0]?).getD .fz) t) && decide (0 < F.np)
def chkD (G : Gt) (j : Nat) (d : DI) : Bool := scpB d.N d.ps (defScope d.st) && decide (d.F.np = d.ps.length) && decide (d.F.ns = d.N.length) && decide (G.fn[j]? = some d.name) && decide (G.ps[j]? = some d.ps) && OT.beq ((G.rt[j]?).getD .fz) d.F.ty && ltBeq ((G.lt[j]?).getD none) d.F.lt &&
  chkB (gD G j d) d.N (defScope d.st) (fun _ => true) d.F.rt [] d.Γ d.F.body (defBody d.st) && endB d.F d.Γ && (!d.hot || (d.F.lt.isNone && d.F.ty.isFz))
section
variable {G : Gt} {T : Tb} {P : Program} {w : World} {mg : Str → Option Value} {base : Heap}
theorem runF_len {S : Sem1} {F : FD} {ds : List D} (h : runF S F ds ≠ .bad) : ds.length = F.np := by
  unfold runF at h
  split at h
  · rename_i e; exact e
  · exact absurd rfl h
/-- what a def that makes lambdas has: its code's table -/
def LamF (K : PySem.W.Frag) (mg : Str → Option Value) (base : Heap) (d : DI) (f : Addr) : Prop := ∀ (oc : Value) (od : Option Addr) (fd : FuncData) (osl : Array (Option Value)), K.lookup f = some ⟨oc, od, .func fd, osl⟩ →
  ∃ c P, fd.code = .ref c ∧ LamX.TabB base mg c P ∧ (P, lamQ d.qual) ∈ TabC.tl ∧ ∀ p ∈ TabC.tl, p.1 = P → p.2 = lamQ d.qual
theorem FunD.okC {CX : CXT} {K : PySem.W.Frag} {P : Program} {w : World} {mg : Str → Option Value} {base : Heap} {x qual : Str} {params : Arguments} {body : List Stmt} {scope : Scope} {dvs : List V} {kws : List (Str × V)} {f : Addr} {fd : FuncData} {N ps : List Str} {k : Nat} {sp : Sp}
    (F : FunD K x qual params body scope dvs kws f fd) (S : FnScope N ps scope) (len : ∀ vs H Q E, sp vs H Q E → vs.length = ps.length)
    (hbody : ∀ (cdv : Value) (A : Around) (outer : List PySem.Env) (s : Shared) (H : Hp) (vs : List V) (Q : VK) (E : XK), (∃ oc od fd osl, K.lookup f = some ⟨oc, od, .func fd, osl⟩ ∧ fd.code = cdv) → Room k (A.deeper (envOfC qual scope s.heap.objs.size f cdv)) → sp vs H Q E →
      ∃ t, PSs (cxOf CX P w K mg base N qual scope f cdv A outer s H E) body t ∧ t { nx := fun _ H' => Q .non H', rt := Q } (L2.start N vs) H) : FnOk P w K mg base CX (k + 1) f fd ps sp := by
  obtain ⟨oc, od, dV, kV, doc, pm, an, cdv, ct, osl, rfl, lk, hcd, _, _⟩ := F.ex
  exact fn_of lk hcd S len fun A outer s H vs Q E hr hsp => hbody cdv A outer s H vs Q E ⟨_, _, _, _, lk, rfl⟩ hr hsp
theorem lamOk_of {K : PySem.W.Frag} {d : DI} {f : Addr} {CX : CXT} {P : Program} {w : World} {mg : Str → Option Value} {base : Heap} {N : List Str} {sc : Scope} {cdv : Value} {A : Around} {outer : List PySem.Env} {s : Shared} {H : Hp} {E : XK} (h : LamF K mg base d f) (hcd : ∃ oc od fd osl, K.lookup f = some ⟨oc, od, .func fd, osl⟩ ∧ fd.code = cdv) :
    LamOk (cxOf CX P w K mg base N d.qual sc f cdv A outer s H E) := by
  obtain ⟨oc, od, fd, osl, lk, e⟩ := hcd
  obtain ⟨c, Q, e1, e2, e3, e4⟩ := h oc od fd osl lk
  exact ⟨c, Q, e2, e.symm.trans e1, e3, e4⟩
theorem fn_okN {PP : List FD} {j : Nat} {d : DI} {dvs : List V} {kws : List (Str × V)} {f : Addr} {fd : FuncData} (hP : PP[j]? = some d.F) (hlt : d.F.lt = none) (hh : d.hot = false) (hc : chkD G j d = true) (ff : FF { G with lv := j, la := d.la } T (fun i => if i < j then sem PP i else fun _ => .bad) j P w mg base) (hcm : G.cm = true) (hlam : d.la = true → LamF T.K mg base d f)
    (F : FunD T.K d.nm d.qual (defArgs d.st) (defBody d.st) (defScope d.st) dvs kws f fd) : FnOk P w T.K mg base (L2.CX P w) (j + 1) f fd d.ps (spS T (sem PP) d.F.ty d.ps.length j) := by
  unfold chkD at hc
  simp only [Bool.and_eq_true, decide_eq_true_eq] at hc
  obtain ⟨⟨⟨⟨⟨⟨⟨⟨⟨h1, h2⟩, h3⟩, h4⟩, h5⟩, h6⟩, h66⟩, h7⟩, h8⟩, h9⟩ := hc
  have eG : gD G j d = { G with lv := j, la := d.la } := by unfold gD; rw [hh]; rfl
  rw [eG] at h7
  have S := scpB_ok h1
  have hG : d.Γ = List.replicate d.N.length .fz := by unfold DI.Γ; rw [hlt]
  have hrt : d.F.rt = ⟨d.F.ty, none⟩ := by unfold FD.rt; rw [hlt]; rfl
  rw [hG, hrt] at h7
  have h8 : (d.F.ty.isFz || !ends d.F.body) = true := by
    unfold endB at h8
    rw [hlt] at h8
    exact h8
  refine FunD.okC F S (fun vs H Q E h => ?_) (fun cdv A outer s H vs Q E hcd hr h => ?_)
  · obtain ⟨U, ds, _, _, hl, _⟩ := h
    exact hl
  · obtain ⟨U, ds, hU, ra, hl, htb, hs⟩ := h
    rw [sem_eq PP hP] at hs
    let SS : Sem1 := fun i => if i < j then sem PP i else fun _ => .bad
    let C : Ct := ⟨T, SS, ⟨U, H, [], none⟩, fun k es => runF SS d.F ds = .ex k es⟩
    let X := cxOf (L2.CX P w) P w T.K mg base d.N d.qual (defScope d.st) f cdv A outer s H E
    have hlen : ds.length = d.F.np := by rw [← ra.length, hl, h2]
    have hns : d.ps.length ≤ d.N.length := by have := congrArg List.length S.pre; rw [List.length_take] at this; omega
    have same_of : ∀ {H' : Hp}, C.xc.Sm H' → Ev H H' := fun h => ⟨⟨fun e n => h.at_ e n (by simp [C]), h.tb⟩, h.ta⟩
    have take : Takes X (fun cls dd _ H' => E cls dd H') := takes_of rfl rfl rfl rfl
    have hs' : (match runF SS d.F ds with
        | .ok d' => ∀ v H' (f : List Addr), Ev H H' → f.Nodup → New H f → Own T (msk H' fun a => U a ∨ a ∈ f) H' d.F.ty f v d' → Q v H'
        | .ex k es => ∀ cl dx H', Ev H H' → ExR T (fun d => H d = none) H' cl dx k es → E cl dx H'
        | .bad => False) := hs
    have exk : ∀ cls dx H', EXK C cls dx H' → E cls dx H' := fun cls dx H' q => by
      obtain ⟨k, es, xr, sm, ex⟩ := q
      have ex : runF SS d.F ds = .ex k es := ex
      rw [ex] at hs'
      exact hs' cls dx H' (same_of sm) (xr.back fun d z => z.elim id fun z => by cases z)
    have SFX : SF { G with lv := j, la := d.la } C d.N (defScope d.st) (fun _ => true) X := by
      refine ⟨⟨rfl, fun _ => rfl, S.nd, rfl, rfl, L2H.roomH_of hr, fun _ => hr.hd, ff, passes_call take fun cls dx σ H' q => exk cls dx H' q, htb, fun hl => lamOk_of (hlam hl) hcd, fun z => absurd (hcm.symm.trans z) (by decide)⟩, passes_of rfl, S.kind, fun _ _ => rfl, take.imp fun cls dx σ H' q => exk cls dx H' q⟩
    refine ⟨_, (snd_s xop_ok sop_ok { G with lv := j, la := d.la } d.N (defScope d.st) (fun _ => true) ⟨d.F.ty, none⟩).2 [] _ _ _ SFX (fun z => by cases z) h7, ?_⟩
    have eN : d.N.length = ds.length + (d.N.length - ds.length) := by rw [← ra.length, hl]; omega
    have sl := Sl.start (T := T) (A := msk H U) (H := H) (d.N.length - ds.length) ra
    refine ⟨List.replicate d.N.length [], ds.map some ++ List.replicate (d.N.length - ds.length) none, ⟨?_, ?_, ?_, ?_, hU, ?_, ?_⟩, ?_⟩
    · rw [show L2.start d.N vs = vs.map some ++ List.replicate (d.N.length - ds.length) none by unfold L2.start; rw [ra.length]]
      have sl' := sl.mono (A' := Cfg.A C.xc H (List.replicate d.N.length ([] : List Addr)).flatten) (H' := H) (msk_mono (Same.refl _) fun a q => by
        rcases q with q | q
        · exact .inl q
        · simp at q) fun _ _ _ _ h => h
      rw [← eN] at sl'
      exact sl'
    · simp
    · intro a ha; simp at ha
    · intro a ha; simp at ha
    · exact ⟨fun h _ _ => h, fun h => ⟨_, h⟩, fun h => h⟩
    · intro t v hv; cases hv
    · have hr : runF SS d.F ds = (Pv.exec SS (ds.map some ++ List.replicate (d.N.length - ds.length) none) d.F.body).out := by
        unfold runF FD.out
        rw [if_pos hlen, h3, hlen, hlt]
      show PF C ⟨d.F.ty, none⟩ _ [] _ _ (Pv.exec SS (ds.map some ++ List.replicate (d.N.length - ds.length) none) d.F.body)
      cases ee : Pv.exec SS (ds.map some ++ List.replicate (d.N.length - ds.length) none) d.F.body with
      | nx e =>
        rw [hr, ee] at hs'
        intro σ' H' fs' so' _
        have tz : d.F.ty = .fz := by
          rcases Bool.or_eq_true_iff.mp h8 with h8 | h8
          · exact OT.isFz_of h8
          · exact absurd ee (ends_nx (by simpa using h8))
        have hs' : ∀ v H' (f : List Addr), Ev H H' → f.Nodup → New H f → Own T (msk H' fun a => U a ∨ a ∈ f) H' d.F.ty f v .non → Q v H' := hs'
        exact hs' .non H' [] (same_of so'.sm) List.nodup_nil (fun a h => by cases h) (by rw [tz]; exact .fz .non)
      | bk e => rw [hr, ee] at hs'; exact hs'.elim
      | ct e => rw [hr, ee] at hs'; exact hs'.elim
      | bad => rw [hr, ee] at hs'; exact hs'.elim
      | ex k es =>
        show runF SS d.F ds = .ex k es
        rw [hr, ee]; rfl
      | rt r e =>
        rw [hr, ee] at hs'
        intro v H' sm q
        obtain ⟨f', nf, wf, o⟩ := q
        have hs' : ∀ v H' (f : List Addr), Ev H H' → f.Nodup → New H f → Own T (msk H' fun a => U a ∨ a ∈ f) H' d.F.ty f v r → Q v H' := hs'
        exact hs' v H' f' (same_of sm) nf (fun a ha => (wf a ha).elim id fun z => by simp [C] at z) o
theorem fn_okL {PP : List FD} {j : Nat} {d : DI} {dvs : List V} {kws : List (Str × V)} {t0 t1 : OT} {f : Addr} {fd : FuncData} (hP : PP[j]? = some d.F) (hlt : d.F.lt = some (t0, t1)) (hh : d.hot = false) (hc : chkD G j d = true) (ff : FF { G with lv := j, la := d.la } T (fun i => if i < j then sem PP i else fun _ => .bad) j P w mg base) (hcm : G.cm = true) (hlam : d.la = true → LamF T.K mg base d f)
    (F : FunD T.K d.nm d.qual (defArgs d.st) (defBody d.st) (defScope d.st) dvs kws f fd) : FnOk P w T.K mg base (L2.CX P w) (j + 1) f fd d.ps (spL T (sem PP) t0 t1 d.ps.length j) := by
  unfold chkD at hc
  simp only [Bool.and_eq_true, decide_eq_true_eq] at hc
  obtain ⟨⟨⟨⟨⟨⟨⟨⟨⟨h1, h2⟩, h3⟩, h4⟩, h5⟩, h6⟩, h66⟩, h7⟩, h8⟩, h9⟩ := hc
  have eG : gD G j d = { G with lv := j, la := d.la } := by unfold gD; rw [hh]; rfl
  rw [eG] at h7
  have S := scpB_ok h1
  have hG : d.Γ = t0 :: List.replicate (d.N.length - 1) .fz := by unfold DI.Γ; rw [hlt]
  have hrt : d.F.rt = ⟨d.F.ty, some t1⟩ := by unfold FD.rt; rw [hlt]; rfl
  rw [hG, hrt] at h7
  unfold endB at h8
  rw [hlt] at h8
  simp only [Bool.and_eq_true, decide_eq_true_eq] at h8
  obtain ⟨⟨⟨⟨b1, b2⟩, b3⟩, b4⟩, b5⟩ := h8
  have tz : d.F.ty = .fz := OT.isFz_of b1
  refine FunD.okC F S (fun vs H Q E h => ?_) (fun cdv A outer s H vs Q E hcd hr h => ?_)
  · obtain ⟨U, v0, us, d0, ds, f0, ev, _, _, _, _, _, hl, _⟩ := h
    rw [ev]
    exact hl
  · obtain ⟨U, v0, us, d0, ds, f0, ev, hU, hf0, nf0, o0, ra, hl, htb, hs⟩ := h
    subst ev
    rw [sem_eq PP hP] at hs
    let SS : Sem1 := fun i => if i < j then sem PP i else fun _ => .bad
    let C : Ct := ⟨T, SS, ⟨U, H, f0, some v0⟩, fun k es => runF SS d.F (d0 :: ds) = .ex k es⟩
    let X := cxOf (L2.CX P w) P w T.K mg base d.N d.qual (defScope d.st) f cdv A outer s H E
    have hlen : (d0 :: ds).length = d.F.np := by rw [List.length_cons, ← ra.length, hl, h2]
    have hns : d.ps.length ≤ d.N.length := by have := congrArg List.length S.pre; rw [List.length_take] at this; omega
    have same_of : ∀ {H' : Hp}, C.xc.Sm H' → EvL f0 H H' := fun h => ⟨fun e n k => h.at_ e n k, h.tb, h.ta⟩
    have take : Takes X (fun cls dd _ H' => E cls dd H') := takes_of rfl rfl rfl rfl
    have hs' : (match runF SS d.F (d0 :: ds) with
        | .ok (.tup [d', d1]) => ∀ v H' (f1 : List Addr), EvL f0 H H' → f1.Nodup → (∀ a ∈ f1, H a = none ∨ a ∈ f0) → Own T (msk H' fun a => U a ∨ a ∈ f1) H' t1 f1 v0 d1 → Rep T (msk H' fun a => U a ∨ a ∈ f1) v d' → Q v H'
        | .ex k es => ∀ cl dx H', EvL f0 H H' → ExR T (fun d => H d = none ∨ d ∈ f0) H' cl dx k es → E cl dx H'
        | _ => False) := hs
    have exk : ∀ cls dx H', EXK C cls dx H' → E cls dx H' := fun cls dx H' q => by
      obtain ⟨k, es, xr, sm, ex⟩ := q
      have ex : runF SS d.F (d0 :: ds) = .ex k es := ex
      rw [ex] at hs'
      exact hs' cls dx H' (same_of sm) xr
    have SFX : SF { G with lv := j, la := d.la } C d.N (defScope d.st) (fun _ => true) X := by
      refine ⟨⟨rfl, fun _ => rfl, S.nd, rfl, rfl, L2H.roomH_of hr, fun _ => hr.hd, ff, passes_call take fun cls dx σ H' q => exk cls dx H' q, htb, fun hl => lamOk_of (hlam hl) hcd, fun z => absurd (hcm.symm.trans z) (by decide)⟩, passes_of rfl, S.kind, fun _ _ => rfl, take.imp fun cls dx σ H' q => exk cls dx H' q⟩
    refine ⟨_, (snd_s xop_ok sop_ok { G with lv := j, la := d.la } d.N (defScope d.st) (fun _ => true) ⟨d.F.ty, some t1⟩).2 [] _ _ _ SFX (fun _ => rfl) h7, ?_⟩
    have eN : d.N.length - 1 = ds.length + (d.N.length - 1 - ds.length) := by rw [← ra.length]; omega
    have sl := Sl.start (T := T) (A := msk H fun a => U a ∨ a ∈ f0) (H := H) (d.N.length - 1 - ds.length) ra
    have eF : (f0 :: List.replicate (d.N.length - 1) ([] : List Addr)).flatten = f0 := by simp
    refine ⟨f0 :: List.replicate (d.N.length - 1) [], some d0 :: (ds.map some ++ List.replicate (d.N.length - 1 - ds.length) none), ⟨?_, ?_, ?_, ?_, hU, ?_, ?_⟩, ?_⟩
    · rw [eF]
      rw [show L2.start d.N (v0 :: us) = some v0 :: (us.map some ++ List.replicate (d.N.length - 1 - ds.length) none) by
        unfold L2.start
        rw [List.map_cons, List.length_cons, ra.length, List.cons_append]
        congr 3
        omega]
      rw [← eN] at sl
      exact .is o0 sl
    · rw [eF]; exact nf0
    · rw [eF]; exact fun a ha => .inr ha
    · rw [eF]; exact hf0
    · exact ⟨fun h _ _ => h, fun h => ⟨_, h⟩, fun h => h⟩
    · intro t v hv hg _
      cases hv
      refine ⟨?_, d0, rfl⟩
      show (L2.start d.N (v0 :: us))[0]? = _
      rfl
    · have hr : runF SS d.F (d0 :: ds) = (Pv.exec SS (some d0 :: (ds.map some ++ List.replicate (d.N.length - 1 - ds.length) none)) d.F.body).outL := by
        unfold runF FD.out
        rw [if_pos hlen, h3, ← hlen, hlt, List.length_cons]
        rw [show d.N.length - (ds.length + 1) = d.N.length - 1 - ds.length by omega]
        rfl
      show PF C ⟨d.F.ty, some t1⟩ _ [] _ _ (Pv.exec SS (some d0 :: (ds.map some ++ List.replicate (d.N.length - 1 - ds.length) none)) d.F.body)
      have fin : ∀ {r : Pv.D} {e : Env} {v : V} {H' : Hp}, runF SS d.F (d0 :: ds) = lent r e → C.xc.Sm H' → RL C t1 H' v r e → Q v H' := fun {r e v H'} er sm q => by
        obtain ⟨v1, d1, f1, e1, e2, n1, w1, o1, r1⟩ := q
        cases e1
        rw [er] at hs'
        unfold lent at hs'
        rw [e2] at hs'
        exact hs' v H' f1 (same_of sm) n1 w1 o1 r1
      cases ee : Pv.exec SS (some d0 :: (ds.map some ++ List.replicate (d.N.length - 1 - ds.length) none)) d.F.body with
      | nx e =>
        rw [hr, ee] at hs'
        intro σ' H' fs' so' _
        have eo : (((out (t0 :: List.replicate (d.N.length - 1) .fz) d.F.body)[0]?).getD .fz) = t1 := by
          rcases Bool.or_eq_true_iff.mp b4 with h8 | h8
          · exact absurd ee (ends_nx (by simpa using h8))
          · rw [hG] at h8; exact OT.beq_of h8
        obtain ⟨d1, hd1⟩ := so'.lent0 (v0 := v0) rfl (by rw [eo]; exact b3)
        exact fin (r := .non) (e := e) (by rw [hr, ee]; rfl) so'.sm (so'.rl rfl eo b3 hd1 .non)
      | bk e => rw [hr, ee] at hs'; exact hs'.elim
      | ct e => rw [hr, ee] at hs'; exact hs'.elim
      | bad => rw [hr, ee] at hs'; exact hs'.elim
      | ex k es =>
        show runF SS d.F (d0 :: ds) = .ex k es
        rw [hr, ee]; rfl
      | rt r e =>
        intro v H' sm q
        exact fin (r := r) (e := e) (by rw [hr, ee]; rfl) sm q
/-- a def of the text, called where an exception is handled -/
theorem ff_hot {S : Sem1} {n j : Nat} {d : DI} {T' : Tb} (hh : d.hot = true) (hK : T'.K = T.K) (hC : T'.cls = T.cls) (hbl : ∀ x ∈ G.bl, mg x = none) (hxs : ∀ q ∈ G.xs, XsOk T mg q) : FF (gD G j d) T' S n P w mg base := by
  have eG : gD G j d = { fn := [], ps := [], rt := [], bl := G.bl, gl := [], gc := false, lv := j, cm := false, xc := G.xc, xs := G.xs } := by unfold gD; rw [hh]; rfl
  rw [eG]
  refine ⟨fun j x _ _ hg => (by cases hg), fun p hp => (by cases hp), hbl, fun z => (by cases z), fun z => (by cases z), fun q hq => (by cases hq), fun q hq => (by cases hq), fun q hq => (by cases hq), fun q hq => (by cases hq), fun q hq => (by cases hq), fun q hq => (by cases hq), fun q hq => (by cases hq), fun q hq => ?_, fun z => (by cases z)⟩
  obtain ⟨C0, v, cv, a1, a2, a3, a4⟩ := hxs q hq
  exact ⟨C0, v, cv, by rw [hC]; exact a1, by rw [hK]; exact a2, a3, by rw [hK]; exact a4⟩
theorem fn_okH {PP : List FD} {j : Nat} {d : DI} {dvs : List V} {kws : List (Str × V)} {f : Addr} {fd : FuncData} (hP : PP[j]? = some d.F) (hh : d.hot = true) (hc : chkD G j d = true) (hbl : ∀ x ∈ G.bl, mg x = none) (hxs : ∀ q ∈ G.xs, XsOk T mg q)
    (F : FunD T.K d.nm d.qual (defArgs d.st) (defBody d.st) (defScope d.st) dvs kws f fd) : HotOk G T (sem PP) P w mg base j f fd d.ps := by
  unfold chkD at hc
  simp only [Bool.and_eq_true, decide_eq_true_eq] at hc
  obtain ⟨⟨⟨⟨⟨⟨⟨⟨⟨h1, h2⟩, h3⟩, h4⟩, h5⟩, h6⟩, h66⟩, h7⟩, h8⟩, h9⟩ := hc
  have S := scpB_ok h1
  rw [hh] at h9
  simp only [Bool.not_true, Bool.false_or, Bool.and_eq_true] at h9
  have hlt : d.F.lt = none := by
    cases e : d.F.lt with
    | none => rfl
    | some t => rw [e] at h9; cases h9.1
  have tz : d.F.ty = .fz := OT.isFz_of h9.2
  have hG : d.Γ = List.replicate d.N.length .fz := by unfold DI.Γ; rw [hlt]
  have hrt : d.F.rt = ⟨.fz, none⟩ := by unfold FD.rt; rw [hlt, tz]; rfl
  rw [hG, hrt] at h7
  intro p c C0 dx hcx hcl hz hf
  refine hot_of F S (fun vs H Q E h => ?_) (fun cdv A outer s H vs Q hr h => ?_)
  · obtain ⟨U, ds, _, _, hl, _⟩ := h
    exact hl
  · obtain ⟨U, ds, hU, ra, hl, htb, hs⟩ := h
    rw [sem_eq PP hP] at hs
    let SS : Sem1 := fun i => if i < j then sem PP i else fun _ => .bad
    let C : Ct := ⟨T.hot p.1 c dx, SS, ⟨U, H, [], none⟩, fun k es => runF SS d.F ds = .ex k es⟩
    let X := L2H.cxH C8.CX0 P w T.K mg base d.N d.qual (defScope d.st) f cdv A outer s H C8.E0 p
    have hlen : ds.length = d.F.np := by rw [← ra.length, hl, h2]
    have same_of : ∀ {H' : Hp}, C.xc.Sm H' → Ev H H' := fun h => ⟨⟨fun e n => h.at_ e n (by simp [C]), h.tb⟩, h.ta⟩
    have hs' : (match runF SS d.F ds with
        | .ok d' => ∀ v H' (f : List Addr), Ev H H' → f.Nodup → New H f → Own (T.hot p.1 c dx) (msk H' fun a => U a ∨ a ∈ f) H' .fz f v d' → Q v H'
        | .ex k es => ∀ cl dy H', Ev H H' → ExR (T.hot p.1 c dx) (fun d => H d = none) H' cl dy k es → C8.E0 cl dy H'
        | .bad => False) := hs
    have exk : ∀ cls dy H', EXK C cls dy H' → False := fun cls dy H' q => by
      obtain ⟨k, es, xr, sm, ex⟩ := q
      have ex : runF SS d.F ds = .ex k es := ex
      rw [ex] at hs'
      exact hs' cls dy H' (same_of sm) (xr.back fun d z => z.elim id fun z => by cases z)
    have SFX : SF (gD G j d) C d.N (defScope d.st) (fun _ => true) X := by
      have eG : gD G j d = { fn := [], ps := [], rt := [], bl := G.bl, gl := [], gc := false, lv := j, cm := false, xc := G.xc, xs := G.xs } := by unfold gD; rw [hh]; rfl
      have ff : FF (gD G j d) (T.hot p.1 c dx) SS j P w mg base := ff_hot (T := T) hh rfl rfl hbl hxs
      rw [eG] at ff ⊢
      exact ⟨⟨rfl, (fun z => by cases z), S.nd, rfl, rfl, hr, (fun z => by cases z), ff, (passes_call (X := X) LamX.takes0 fun cls dy σ H' q => exk cls dy H' q), htb, (fun z => by cases z), fun _ => ⟨p, c, C0, dx, List.mem_singleton.mpr rfl, hcx, hcl, hz, hf, rfl⟩⟩, passes_of rfl, S.kind, fun _ _ => rfl, LamX.takes0.imp fun cls dy σ H' q => exk cls dy H' q⟩
    refine ⟨_, (snd_s xop_ok sop_ok (gD G j d) d.N (defScope d.st) (fun _ => true) ⟨.fz, none⟩).2 [] _ _ _ SFX (fun z => by cases z) h7, ?_⟩
    have eN : d.N.length = ds.length + (d.N.length - ds.length) := by
      have hns : d.ps.length ≤ d.N.length := by have := congrArg List.length S.pre; rw [List.length_take] at this; omega
      rw [← ra.length, hl]; omega
    have sl := Sl.start (T := T.hot p.1 c dx) (A := msk H U) (H := H) (d.N.length - ds.length) ra
    refine ⟨List.replicate d.N.length [], ds.map some ++ List.replicate (d.N.length - ds.length) none, ⟨?_, ?_, ?_, ?_, hU, ?_, ?_⟩, ?_⟩
    · rw [show L2.start d.N vs = vs.map some ++ List.replicate (d.N.length - ds.length) none by unfold L2.start; rw [ra.length]]
      have sl' := sl.mono (A' := Cfg.A C.xc H (List.replicate d.N.length ([] : List Addr)).flatten) (H' := H) (msk_mono (Same.refl _) fun a q => by
        rcases q with q | q
        · exact .inl q
        · simp at q) fun _ _ _ _ h => h
      rw [← eN] at sl'
      exact sl'
    · simp
    · intro a ha; simp at ha
    · intro a ha; simp at ha
    · exact ⟨fun h _ _ => h, fun h => ⟨_, h⟩, fun h => h⟩
    · intro t v hv; cases hv
    · have hr : runF SS d.F ds = (Pv.exec SS (ds.map some ++ List.replicate (d.N.length - ds.length) none) d.F.body).out := by
        unfold runF FD.out
        rw [if_pos hlen, h3, hlen, hlt]
      show PF C ⟨.fz, none⟩ _ [] _ _ (Pv.exec SS (ds.map some ++ List.replicate (d.N.length - ds.length) none) d.F.body)
      cases ee : Pv.exec SS (ds.map some ++ List.replicate (d.N.length - ds.length) none) d.F.body with
      | nx e =>
        rw [hr, ee] at hs'
        intro σ' H' fs' so' _
        have hs' : ∀ v H' (f : List Addr), Ev H H' → f.Nodup → New H f → Own (T.hot p.1 c dx) (msk H' fun a => U a ∨ a ∈ f) H' .fz f v .non → Q v H' := hs'
        exact hs' .non H' [] (same_of so'.sm) List.nodup_nil (fun a h => by cases h) (.fz .non)
      | bk e => rw [hr, ee] at hs'; exact hs'.elim
      | ct e => rw [hr, ee] at hs'; exact hs'.elim
      | bad => rw [hr, ee] at hs'; exact hs'.elim
      | ex k es =>
        show runF SS d.F ds = .ex k es
        rw [hr, ee]; rfl
      | rt r e =>
        rw [hr, ee] at hs'
        intro v H' sm q
        obtain ⟨f', nf, wf, o⟩ := q
        have hs' : ∀ v H' (f : List Addr), Ev H H' → f.Nodup → New H f → Own (T.hot p.1 c dx) (msk H' fun a => U a ∨ a ∈ f) H' .fz f v r → Q v H' := hs'
        exact hs' v H' f' (same_of sm) nf (fun a ha => (wf a ha).elim id fun z => by simp [C] at z) o
end
end Pv

/-! Pv, part S: a law's end: what the top has written, the law's own head. -/
namespace Pv
open PySem PySem.Spec PyProof.Rows L2
/-! ### constants of the module -/
mutual
def repK (K : PySem.W.Frag) : Value → D → Bool
  | .none, .non => true
  | .bool a, .bl b => a == b
  | .int i _, .int j => decide (i = j)
  | .str x _, .str y => decide (x = y)
  | .ref a, .tup ds => (match K.lookup a with
    | some ⟨.type c, _, .seq its _, _⟩ => decide (c = "tuple") && decide (its.size ≤ sizeLine) && repKA K its.toList ds
    | _ => false)
  | _, _ => false
def repKA (K : PySem.W.Frag) : List Value → List D → Bool
  | [], [] => true
  | u :: us, d :: ds => repK K u d && repKA K us ds
  | _, _ => false
end
mutual
theorem repK_ok {T : Tb} : ∀ {d : D} {u : Value}, repK T.K u d = true → ∃ v, RelV v u ∧ ∀ H, Rep T H v d
  | .non, u, h => by
    cases u <;> first | (simp [repK] at h; done) | exact ⟨.non, rfl, fun _ => .non⟩
  | .bl b, u, h => by
    cases u <;> first
      | (simp [repK] at h; done)
      | (rename_i a
         refine ⟨.bl a, rfl, fun _ => ?_⟩
         have h : (a == b) = true := h
         rw [beq_iff_eq] at h
         rw [h]
         exact .bl b)
  | .int j, u, h => by
    cases u <;> first
      | (simp [repK] at h; done)
      | (rename_i i t
         exact ⟨.int i, ⟨t, rfl⟩, fun _ => by rw [of_decide_eq_true h]; exact .int j⟩)
  | .str y, u, h => by
    cases u <;> first
      | (simp [repK] at h; done)
      | (rename_i x t
         refine ⟨.str x, ⟨t, rfl⟩, fun _ => ?_⟩
         have h : decide (x = y) = true := h
         rw [of_decide_eq_true h]
         exact .str y)
  | .tup ds, u, h => by
    cases u <;> try (simp [repK] at h; done)
    rename_i a
    unfold repK at h
    split at h
    · rename_i c od its n sl q
      simp only [Bool.and_eq_true, decide_eq_true_eq] at h
      obtain ⟨⟨h1, h2⟩, h3⟩ := h
      obtain ⟨vs, r1, r2⟩ := repKA_ok h3
      exact ⟨.ref a, rfl, fun H => .tup (.inr ⟨_, its, n, q, congrArg Value.type h1, rfl, h2, r1⟩) (r2 H)⟩
    · cases h
  | .lst _, u, h | .scr _, u, h | .obj _ _ _, u, h | .exc _ _, u, h => by cases u <;> simp [repK] at h
theorem repKA_ok {T : Tb} : ∀ {ds : List D} {us : List Value}, repKA T.K us ds = true → ∃ vs, Vals vs us ∧ ∀ H, RepA T H vs ds
  | [], us, h => by
    cases us with
    | nil => exact ⟨[], .nil, fun _ => .nil⟩
    | cons u us => simp [repKA] at h
  | d :: ds, us, h => by
    cases us with
    | nil => simp [repKA] at h
    | cons u us =>
      unfold repKA at h
      obtain ⟨h1, h2⟩ := and2 h
      obtain ⟨v, r1, r2⟩ := repK_ok h1
      obtain ⟨vs, q1, q2⟩ := repKA_ok h2
      exact ⟨v :: vs, .cons r1 q1, fun H => .cons (r2 H) (q2 H)⟩
end
/-! ### getters of properties -/
/-- where the getter of the class's property stands -/
def paG (K : PySem.W.Frag) (c f : Str) : Addr := match PySem.W.findIn K (.ref (He.ga K c)) f with
  | some (some (.ref p)) => (match PySem.W.recIn K p "property" with
    | some (.ref g :: _) => g
    | _ => 0)
  | _ => 0
def propB (K : PySem.W.Frag) (c f : Str) : Bool := match PySem.W.findIn K (.ref (He.ga K c)) f with
  | some (some (.ref p)) => He.eqO (PySem.W.specialIn K (.ref p) "__get__") (some (some (.builtin "property.__get__"))) && decide (PySem.W.takesIn K (.ref p) = some true) && (match PySem.W.recIn K p "property" with
    | some (.ref _ :: _) => true
    | _ => false)
  | _ => false
theorem propB_ok {K : PySem.W.Frag} {c f : Str} (h : propB K c f = true) : ∃ p, PropOf K (He.ga K c) f p (paG K c f) := by
  unfold propB at h
  unfold paG
  split at h
  · rename_i p e
    simp only [Bool.and_eq_true, decide_eq_true_eq] at h
    obtain ⟨⟨h1, h2⟩, h3⟩ := h
    split at h3
    · rename_i g rest e2
      exact ⟨p, e, He.eqO_ok h1, h2, rest, e2⟩
    · cases h3
  · cases h
def fnAt (K : PySem.W.Frag) (a : Addr) : He.FnW := match K.lookup a with
  | some ⟨_, _, .func z, _⟩ => some (z.name, z.qualname, z.params, z.body, z.scope, z.globals, z.closure, z.builtins)
  | _ => none
def okAt (K : PySem.W.Frag) (a : Addr) (d : He.DefD) : Bool := PySem.W.keepIn K (.ref a) && (match K.lookup a with
  | some ⟨_, _, .func z, _⟩ => PySem.W.codeIn K z.code d.qual && (He.dflB K z.defaults (d.dvs K) && He.kwdB K z.kwdefaults (d.kws K))
  | _ => false)
theorem funD_at {K : PySem.W.Frag} {a : Addr} {d : He.DefD} (e : fnAt K a = d.val) (c : okAt K a d = true) : ∃ fd, FunD K d.name d.qual d.params d.body d.scope (d.dvs K) (d.kws K) a fd := by
  obtain ⟨kp, c2⟩ := and2 c
  unfold fnAt at e
  cases hq : K.lookup a with
  | none => rw [hq] at c2; cases c2
  | some ob =>
    obtain ⟨oc, od, dt, sl⟩ := ob
    rw [hq] at c2 e
    cases dt with
    | func z =>
      obtain ⟨m1, m2, m3, m4, m5, m6, m7, m8, m9, m10, m11, m12, m13, m14, m15⟩ := z
      have e2 : (some (m1, m2, m3, m4, m5, m6, m7, m15) : He.FnW) = d.val := e
      unfold He.DefD.val at e2
      simp only [Option.some.injEq, Prod.mk.injEq] at e2
      obtain ⟨g1, g2, g3, g4, g5, g6, g7, g8⟩ := e2
      subst g1 g2 g3 g4 g5 g6 g7 g8
      have c3 : (PySem.W.codeIn K m13 d.qual && (He.dflB K m8 (d.dvs K) && He.kwdB K m9 (d.kws K))) = true := c2
      obtain ⟨w1, w2⟩ := and2 c3
      obtain ⟨w3, w4⟩ := and2 w2
      exact ⟨_, ⟨oc, od, m8, m9, m10, m11, m12, m13, m14, sl, rfl, hq, w1, He.dflB_ok w3, He.kwdB_ok w4⟩, kp⟩
    | _ => cases c2
/-- a getter: its class, its property, its def -/
abbrev Pg : Type := Str × Str × He.DefD
abbrev AlP : Type := He.AlD × Bool × Bool × List He.FnW
/-- what an object names that the facts may read; nothing behind codes and modules -/
def refsP (o : Obj) : List Addr := match o.cls with
  | .type "code" => []
  | .type "module" => []
  | c => He.refV c ++ match o.data with
    | .seq its _ => its.toList.flatMap He.refV
    | .dict es _ => es.toList.flatMap fun e => He.refV e.val
    | .func z => He.refV z.code ++ He.refV z.defaults ++ He.refV z.kwdefaults
    | .cls z => z.ns :: z.mro.flatMap He.refV
    | .fields vs => vs.toList.flatMap He.refV
    | _ => []
def uniq : List Addr → List Addr → List Addr
  | _, [] => []
  | seen, a :: as => if seen.contains a then uniq seen as else a :: uniq (a :: seen) as
def growP (g : Addr → Option Obj) : Nat → List Addr → List Addr → List Addr
  | 0, fr, seen => fr ++ seen
  | n + 1, fr, seen => growP g n (uniq (fr ++ seen) (fr.flatMap fun a => match g a with | some o => refsP o | none => [])) (fr ++ seen)
/-- what the names nd of the module reach in n steps -/
def asP (g : Addr → Option Obj) (nd : List Str) (n : Nat) : List Addr := mainGlobals :: growP g n (match g mainGlobals with
  | some ⟨_, _, .dict es _, _⟩ => uniq [mainGlobals] (es.toList.flatMap fun e => if nd.any fun x => e.key.isStr x then He.refV e.val else [])
  | _ => []) [mainGlobals]
abbrev frP (g : Addr → Option Obj) (nd : List Str) (n : Nat) : PySem.W.Frag := He.frT g (asP g nd n)
def obsP (n : Nat) (nd : List Str) (fa : List He.Fa) (fn : List He.DefD) (ps : List Pg) (tf : List He.Defn) (ex : PySem.W.Frag → Bool) (g : Addr → Option Obj) : AlP :=
  (He.obsD fa fn (frP g nd n), ex (frP g nd n) && He.tabsB g tf (frP g nd n), ps.all fun p => propB (frP g nd n) p.1 p.2.1 && okAt (frP g nd n) (paG (frP g nd n) p.1 p.2.1) p.2.2, ps.map fun p => fnAt (frP g nd n) (paG (frP g nd n) p.1 p.2.1))
def valP (fn : List He.DefD) (ps : List Pg) : AlP := (He.valD fn, true, true, ps.map fun p => p.2.2.val)
structure SaysP (fa : List He.Fa) (fn : List He.DefD) (ps : List Pg) (tf : List He.Defn) (ex : PySem.W.Frag → Bool) (h : Heap) (K : PySem.W.Frag) : Prop where
  d : He.SaysD fa fn K
  more : ex K = true
  hd : ∀ p ∈ tf, PySem.W.codeHdIn K (He.cT K p).1 (He.cT K p).2 = true
  none_ : ∀ p ∈ tf, K.lookup (He.cT K p).2 = none
  nil_ : ∀ p ∈ tf, h.get? (He.cT K p).2 = some { cls := .none, data := .fields #[] }
  p : ∀ q ∈ ps, (∃ a, PropOf K (He.ga K q.1) q.2.1 a (paG K q.1 q.2.1)) ∧ ∃ fd, FunD K q.2.2.name q.2.2.qual q.2.2.params q.2.2.body q.2.2.scope (q.2.2.dvs K) (q.2.2.kws K) (paG K q.1 q.2.1) fd
theorem map_at {α β : Type} {f g : α → β} : ∀ {l : List α}, l.map f = l.map g → ∀ x ∈ l, f x = g x
  | [], _, x, hx => by cases hx
  | a :: l, h, x, hx => by
    rw [List.map_cons, List.map_cons] at h
    obtain ⟨h1, h2⟩ := List.cons.inj h
    rcases List.mem_cons.mp hx with e | hx
    · rw [e]; exact h1
    · exact map_at h2 x hx
theorem tabs_of {g : Addr → Option Obj} {as : List Addr} {tf : List He.Defn} (e : He.tabsB g tf (He.frT g as) = true) : ∀ p ∈ tf, PySem.W.codeHdIn (He.frT g as) (He.cT (He.frT g as) p).1 (He.cT (He.frT g as) p).2 = true ∧
    (He.frT g as).lookup (He.cT (He.frT g as) p).2 = none ∧ g (He.cT (He.frT g as) p).2 = some { cls := .none, data := .fields #[] } := fun p hp => by
  obtain ⟨h1, h2⟩ := and2 (List.all_eq_true.mp e p hp)
  cases q : g (He.cT (He.frT g as) p).2 with
  | none =>
    rw [q] at h2
    cases h2
  | some o =>
    rw [q] at h2
    exact ⟨h1, He.frT_none q h2, congrArg some (He.emptyTab_eq h2)⟩
theorem saysP_of {n : Nat} {nd : List Str} {fa : List He.Fa} {fn : List He.DefD} {ps : List Pg} {tf : List He.Defn} {ex : PySem.W.Frag → Bool} {h : Heap} (e : obsP n nd fa fn ps tf ex h.get? = valP fn ps) : SaysP fa fn ps tf ex h (frP h.get? nd n) := by
  have e1 : He.obsD fa fn (frP h.get? nd n) = He.valD fn := congrArg (fun z : AlP => z.1) e
  have e0 : (ex (frP h.get? nd n) && He.tabsB h.get? tf (frP h.get? nd n)) = true := congrArg (fun z : AlP => z.2.1) e
  have e2 : (ps.all fun p => propB (frP h.get? nd n) p.1 p.2.1 && okAt (frP h.get? nd n) (paG (frP h.get? nd n) p.1 p.2.1) p.2.2) = true := congrArg (fun z : AlP => z.2.2.1) e
  have e3 : (ps.map fun p => fnAt (frP h.get? nd n) (paG (frP h.get? nd n) p.1 p.2.1)) = ps.map fun p => p.2.2.val := congrArg (fun z : AlP => z.2.2.2) e
  obtain ⟨x1, x2⟩ := and2 e0
  have tt := tabs_of x2
  refine ⟨e1, x1, fun p hp => (tt p hp).1, fun p hp => (tt p hp).2.1, fun p hp => (tt p hp).2.2, fun q hq => ?_⟩
  obtain ⟨h1, h2⟩ := and2 (List.all_eq_true.mp e2 q hq)
  exact ⟨propB_ok h1, funD_at (map_at e3 q hq) h2⟩
def hookP (n : Nat) (nd : List Str) (fa : List He.Fa) (fn : List He.DefD) (ps : List Pg) (tf : List He.Defn) (ex : PySem.W.Frag → Bool) : PySem.W.Hook where
  α := AlP
  obs := fun s => obsP n nd fa fn ps tf ex s.heap.get?
  val := fun _ => valP fn ps
  says := fun _ h => ∃ K : PySem.W.Frag, K.In h ∧ SaysP fa fn ps tf ex h K
  of := fun _ _ e => ⟨_, He.frT_in, saysP_of e⟩
  keeps := fun _ _ _ ⟨K, hK, c⟩ k => ⟨K, PySem.W.Frag.In.keeps hK k, ⟨c.d, c.more, c.hd, c.none_, fun p hp => k _ _ (c.nil_ p hp), c.p⟩⟩
theorem obsP_eq {n : Nat} {nd : List Str} {fa : List He.Fa} {fn : List He.DefD} {ps : List Pg} {tf : List He.Defn} {ex : PySem.W.Frag → Bool} {g : Addr → Option Obj} {s : Shared} (h : ∀ a, g a = s.heap.get? a) : obsP n nd fa fn ps tf ex g = (hookP n nd fa fn ps tf ex).obs s := by
  have e : g = s.heap.get? := funext h
  rw [e] <;> rfl
/-! ### facts of the top -/
/-- what isinstance asks of an exception's class -/
def excCB (K : PySem.W.Frag) (D : Addr) : Bool := He.eqO (PySem.W.findIn K (.ref D) "__getattribute__") (some (some (.builtin "BaseException.__getattribute__"))) && He.eqO (PySem.W.findIn K (.ref D) "__getattr__") (some none) && decide (PySem.W.subIn K (.ref D) (.type "BaseException") = some true) && PySem.W.hasDictIn K D &&
  He.eqO (PySem.W.findIn K (.ref D) "__class__") (some (some (.builtin "object.__class__"))) && He.eqO (PySem.W.specialIn K (.builtin "object.__class__") "__get__") (some (some (.builtin "getset_descriptor.__get__"))) && decide (PySem.W.takesIn K (.builtin "object.__class__") = some true) && decide (PySem.W.mroIn K D (.type "object") = some true)
theorem excCB_ok {K : PySem.W.Frag} {D : Addr} (h : excCB K D = true) : ExcC K D := by
  unfold excCB at h
  simp only [Bool.and_eq_true, decide_eq_true_eq] at h
  obtain ⟨⟨⟨⟨⟨⟨⟨h1, h2⟩, h3⟩, h4⟩, h5⟩, h6⟩, h7⟩, h8⟩ := h
  exact ⟨He.eqO_ok h1, He.eqO_ok h2, h3, h4, He.eqO_ok h5, He.eqO_ok h6, h7, h8⟩
def xsK (K : PySem.W.Frag) (q : Str × Str × Bool) : Bool := excCB K (He.ga K q.1) && (if q.2.1 = "ValueError" then He.eqO (PySem.W.nsIn K mainGlobals q.2.1) (some none) && decide (PySem.W.kitOne K (.ref (He.ga K q.1)) (.type "ValueError") = some q.2.2)
  else He.eqO (PySem.W.nsIn K mainGlobals q.2.1) (some (some (.ref (He.ga K q.2.1)))) && decide (PySem.W.kitOne K (.ref (He.ga K q.1)) (.ref (He.ga K q.2.1)) = some q.2.2))
/-- the defs that make lambdas; their tables tell them apart -/
def laL (ds : List DI) : List DI := ds.filter (·.la)
def laK (K : PySem.W.Frag) (ds : List DI) : Bool := (laL ds).all fun a => !a.pp && (laL ds).all fun b => !((He.cT K a.at_).2 == (He.cT K b.at_).2) || decide (lamQ a.qual = lamQ b.qual)
/-- the def that calls what it gets, and the one that it calls then -/
def refL (G : Gt) (ds : List DI) (jr : Nat) : Bool := match ds[jr]?, ds[G.hw]? with
  | some dr, some dw => (match refB dr.st with
    | some (_, wn) => decide (dw.at_ = (wn, none))
    | none => false) && decide (dr.nm = G.rf) && decide (dr.at_ = (G.rf, none)) && decide (dr.qual = G.rf) && !dr.pp && dr.dv.isEmpty && dr.kd.isEmpty && decide (dr.ps = ([("call" : Str)])) && decide (dr.N = [("call" : Str), ("e" : Str)]) && dr.pl && !dw.pp && dw.pl && dw.hot && decide (dw.ps.length = 1)
  | _, _ => false
def refK (K : PySem.W.Frag) (G : Gt) (ds : List DI) (jr : Nat) : Bool := match ds[jr]? with
  | some dr => (match refB dr.st with
    | some (cn, _) => He.eqO (PySem.W.nsIn K mainGlobals cn) (some (some (.ref (He.ga K cn)))) && G.xc.all fun c => decide (PySem.W.exmOne K (.ref (He.ga K c)) (.ref (He.ga K cn)) = some true)
    | none => false)
  | none => false
def gfB (K : PySem.W.Frag) (G : Gt) : Bool := (G.gl.all fun p => match PySem.W.nsIn K mainGlobals p.1 with
    | some (some u) => repK K u p.2
    | _ => false) && (!G.gc || He.eqO (PySem.W.nsIn K mainGlobals "gcd") (some (some (.builtin "math.gcd")))) && (!G.lc || He.eqO (PySem.W.nsIn K mainGlobals "lcm") (some (some (.builtin "math.lcm")))) && (G.me.all fun q => PySem.W.fnIn K (He.ma K (He.ga K q.1) q.2.1)) && (G.xs.all fun q => xsK K q)
/-- all of it: is there such a def -/
def exB (G : Gt) (ds : List DI) (jr : Option Nat) (K : PySem.W.Frag) : Bool := gfB K G && laK K ds && (match jr with | some j => refK K G ds j | none => true)
def DI.dd (d : DI) : He.DefD := ⟨d.at_, d.nm, d.qual, defArgs d.st, defBody d.st, defScope d.st, d.dv, d.kd⟩
/-- getters stand within properties -/
def DI.pg (d : DI) : Option Pg := if d.pp then some (d.at_.1, d.at_.2.getD "", d.dd) else none
def fnL (ds : List DI) : List He.DefD := (ds.filter fun d => !d.pp).map DI.dd
def pgL (ds : List DI) : List Pg := ds.filterMap DI.pg
def faL (G : Gt) (ds : List DI) : List He.Fa := ((ds.filter fun d => !d.pp && d.at_.2.isNone).map fun d => .glo d.at_.1) ++ G.bl.map .free ++ (G.mkc.flatMap fun q => [.glo q.1, .mkr q.1]) ++ (G.me.flatMap fun q => [.cls q.1, .meth q.1 q.2.1]) ++ (G.pr.map fun q => .cls q.1) ++ (G.na.flatMap fun q => [.cls q.1, .noat q.1 q.2]) ++ (G.xo.flatMap fun c => [.glo c, .exc c])
def DI.ad (K : PySem.W.Frag) (d : DI) : Addr := if d.pp then paG K d.at_.1 (d.at_.2.getD "") else He.fAd K d.at_
/-- where the tables' defs stand -/
def tabB (G : Gt) (ds : List DI) : Bool :=
  (G.me.all fun q => match ds[q.2.2]? with | some d => decide (d.at_ = (q.1, some q.2.1)) && !d.pp && !d.hot && ltN G q.2.2 | none => false) &&
  (G.pr.all fun q => match ds[q.2.2]? with | some d => decide (d.at_ = (q.1, some q.2.1)) && d.pp && !d.hot && ltN G q.2.2 && ((G.rt[q.2.2]?).getD .fz).isFz | none => false) &&
  (G.mkc.all fun q => match ds[q.2]? with | some d => decide (d.at_ = (q.1, some ("__init__" : Str))) && !d.pp && !d.hot && (match (G.lt[q.2]?).getD none with | some (.oi [] [], _) => true | _ => false) | none => false) &&
  ((List.range ds.length).all fun j => match ds[j]? with | some d => !inB d.name G.gs || (decide (d.at_ = (d.name, none)) && !d.pp && !d.hot) | none => true)
def BindOk (d : DI) : Prop := ∀ (K : PySem.W.Frag) (f : Addr) (fd : FuncData), FunD K d.nm d.qual (defArgs d.st) (defBody d.st) (defScope d.st) (d.dd.dvs K) (d.dd.kws K) f fd → Binds K fd d.ps []
/-- how a def is called: positional ones, keywords, defaults -/
def ShOk (d : DI) (n : Nat) (ks : List Str) (dl : List He.Dv) : Prop := ∀ (K : PySem.W.Frag) (f : Addr) (fd : FuncData), FunD K d.nm d.qual (defArgs d.st) (defBody d.st) (defScope d.st) (d.dd.dvs K) (d.dd.kws K) f fd →
  ∃ dV : List Value, Vals (dl.map (He.Dv.v K)) dV ∧ (ks = [] → Binds K fd d.ps dV) ∧ (ks ≠ [] → KBn K fd d.ps n ks (fun us ws => us ++ ws ++ dV) (fun vs zs => vs ++ zs ++ dl.map (He.Dv.v K)))
/-- a default as plain data -/
def dvD (G : Gt) : He.Dv → D → Bool
  | .non, .non => true
  | .bl a, .bl b => a == b
  | .int i, .int j => i == j
  | .str x, .str y => decide (x = y)
  | .glo x, .tup l => G.gl.any fun p => decide (p.1 = x) && D.beq p.2 (.tup l)
  | _, _ => false
def dvDs (G : Gt) : List He.Dv → List D → Bool
  | [], [] => true
  | a :: as, d :: ds => dvD G a d && dvDs G as ds
  | _, _ => false
inductive AllB : List DI → Prop
  | nil : AllB []
  | cons {d ds} : (d.pl = true → BindOk d) → AllB ds → AllB (d :: ds)
theorem AllB.get : ∀ {ds : List DI}, AllB ds → ∀ d ∈ ds, d.pl = true → BindOk d
  | _, .cons b r, d, h => (List.mem_cons.mp h).elim (fun e => by rw [e]; exact b) (AllB.get r d)
/-- a shape: the def, how it is called, its defaults -/
structure Sh where
  j : Nat
  n : Nat
  ks : List Str
  dl : List He.Dv
  ds : List D
def Sh.q (s : Sh) : Nat × Nat × List Str × List D := (s.j, s.n, s.ks, s.ds)
def shOkB (G : Gt) (ds : List DI) (m : Nat) (s : Sh) : Bool := match ds[s.j]? with
  | some d => decide (s.n + m + s.ks.length + s.dl.length = d.ps.length) && dvDs G s.dl s.ds && !d.pp
  | none => false
inductive AllS (ds : List DI) (m : Nat) : List Sh → Prop
  | nil : AllS ds m []
  | cons {s ss} : (∀ d, ds[s.j]? = some d → ShOk d (s.n + m) s.ks s.dl) → AllS ds m ss → AllS ds m (s :: ss)
theorem AllS.get {ds : List DI} {m : Nat} : ∀ {ss : List Sh}, AllS ds m ss → ∀ s ∈ ss, ∀ d, ds[s.j]? = some d → ShOk d (s.n + m) s.ks s.dl
  | _, .cons b r, s, h => (List.mem_cons.mp h).elim (fun e => by rw [e]; exact b) (AllS.get r s)
def chkL (G : Gt) : Nat → List DI → Bool
  | _, [] => true
  | j, d :: ds => chkD G j d && chkL G (j + 1) ds
theorem chkL_ok {G : Gt} : ∀ {j : Nat} {ds : List DI}, chkL G j ds = true → ∀ i d, ds[i]? = some d → chkD G (j + i) d = true
  | j, [], _, i, d, e => by simp at e
  | j, d0 :: ds, h, 0, d, e => by
    simp at e; subst e
    exact (and2 h).1
  | j, d0 :: ds, h, i + 1, d, e => by
    have := chkL_ok (and2 h).2 i d (by simpa using e)
    rw [show j + 1 + i = j + (i + 1) by omega] at this
    exact this
abbrev tbl (K : PySem.W.Frag) : Tb := { K := K, cls := fun c => some (He.ga K c) }
/-- all that is looked at ahead, of the tables alone -/
structure Look (G : Gt) (ds : List DI) (sh shm : List Sh) (jr : Option Nat) : Prop where
  chk : chkL G 0 ds = true
  cm : G.cm = true
  tab : tabB G ds = true
  len : G.fn.length = ds.length
  pl : (List.range ds.length).all (fun j => match ds[j]? with | some d => !G.pl.contains j || d.pl | none => true) = true
  bnd : AllB ds
  sh_ : G.sh = sh.map Sh.q
  shm_ : G.shm = shm.map Sh.q
  shB : sh.all (shOkB G ds 0) = true
  shmB : shm.all (shOkB G ds 1) = true
  shA : AllS ds 0 sh
  shmA : AllS ds 1 shm
  shN : sh.all (fun s => ltN G s.j) = true
  la : ((laL ds).isEmpty || (match jr with | some j => refL G ds j | none => false)) = true
end Pv

/-! Pv, part Sa: all defs, and the law's end. -/
namespace Pv
open PySem PySem.Spec PyProof.Rows L2
variable [TabC]
section
variable {G : Gt} {P : Program} {w : World} {mg : Str → Option Value} {base : Heap} {K : PySem.W.Frag} {ds : List DI} {sh shm : List Sh} {jr : Option Nat}
noncomputable abbrev semL (ds : List DI) (n : Nat) : Sem1 := fun i => if i < n then sem (ds.map (·.F)) i else fun _ => .bad
/-- what the top has of a def -/
def DOk (K : PySem.W.Frag) (d : DI) : Prop := ∃ fd, FunD K d.nm d.qual (defArgs d.st) (defBody d.st) (defScope d.st) (d.dd.dvs K) (d.dd.kws K) (d.ad K) fd
theorem look_at (L : Look G ds sh shm jr) {j : Nat} {d : DI} (e : ds[j]? = some d) : chkD G j d = true := by
  have := chkL_ok L.chk j d e
  rwa [Nat.zero_add] at this
theorem def_ok (L : Look G ds sh shm jr) {n j : Nat} {b : Bool} {d : DI} (e : ds[j]? = some d) (hj : j < n) (hh : d.hot = false) (ff : FF { G with lv := j, la := d.la } (tbl K) (semL ds j) j P w mg base) (hlam : d.la = true → LamF K mg base d (d.ad K)) (dok : DOk K d) :
    ∃ fd, FunD K d.nm d.qual (defArgs d.st) (defBody d.st) (defScope d.st) (d.dd.dvs K) (d.dd.kws K) (d.ad K) fd ∧ DefOk { G with lv := n, la := b } (tbl K) (semL ds n) P w mg base j (d.ad K) fd d.ps := by
  obtain ⟨fd, F⟩ := dok
  have hc := look_at L e
  have hP : (ds.map (·.F))[j]? = some d.F := by rw [List.getElem?_map, e]; rfl
  have hc' := hc
  unfold chkD at hc'
  simp only [Bool.and_eq_true, decide_eq_true_eq] at hc'
  obtain ⟨⟨⟨⟨⟨⟨⟨⟨⟨h1, h2⟩, h3⟩, h4⟩, h5⟩, h6⟩, h66⟩, h7⟩, h8⟩, h9⟩ := hc'
  have h66 := ltBeq_of h66
  have h6 := OT.beq_of h6
  have es : ∀ x, semL ds n j x = sem (ds.map (·.F)) j x := fun x => by simp only [if_pos hj]
  refine ⟨fd, F, h5, F.kp, fun hpl => ?_, fun x hx => ?_, ?_⟩
  · have hj2 : j < ds.length := (List.getElem?_eq_some_iff.mp e).1
    have := List.all_eq_true.mp L.pl j (List.mem_range.mpr hj2)
    rw [e] at this
    have hpl : G.pl.contains j = true := hpl
    have hd : d.pl = true := by
      have q : (!G.pl.contains j || d.pl) = true := this
      rw [hpl] at q
      simpa using q
    exact L.bnd.get d (List.mem_of_getElem? e) hd K _ fd F
  · rw [es, sem_eq _ hP] at hx
    rw [runF_len hx, h2]
  · unfold spJ
    have e1 : (({ G with lv := n, la := b } : Gt).lt[j]?).getD none = d.F.lt := h66
    have e2 : ((({ G with lv := n, la := b } : Gt).rt[j]?).getD .fz) = d.F.ty := h6
    rw [e1, e2]
    cases hl : d.F.lt with
    | none =>
      refine (fn_okN hP hl hh hc ff L.cm hlam F).imp fun vs H Q E q => ?_
      obtain ⟨U, x, a1, a2, a3, a4, a5⟩ := q
      rw [es] at a5
      exact ⟨U, x, a1, a2, a3, a4, a5⟩
    | some t =>
      obtain ⟨t0, t1⟩ := t
      refine (fn_okL hP hl hh hc ff L.cm hlam F).imp fun vs H Q E q => ?_
      obtain ⟨U, v0, us, d0, x, f0, b1, b2, b3, b4, b5, b6, b7, b8, b9⟩ := q
      rw [es] at b9
      exact ⟨U, v0, us, d0, x, f0, b1, b2, b3, b4, b5, b6, b7, b8, b9⟩
/-- all that the top tells -/
structure TopOk (G : Gt) (ds : List DI) (mg : Str → Option Value) (K : PySem.W.Frag) : Prop where
  dok : ∀ d ∈ ds, DOk K d
  prp : ∀ d ∈ ds, d.pp = true → ∃ p, PropOf K (He.ga K d.at_.1) (d.at_.2.getD "") p (d.ad K)
  fa : ∀ f ∈ faL G ds, f.ok K = true
  mgr : ∀ x, (He.Fa.glo x) ∈ faL G ds → mg x = some (.ref (He.ga K x))
  mgf : ∀ x, (He.Fa.free x) ∈ faL G ds → mg x = none
  gl : ∀ p ∈ G.gl, ∃ u, mg p.1 = some u ∧ PySem.W.nsIn K mainGlobals p.1 = some (some u) ∧ repK K u p.2 = true
  gc : G.gc = true → mg "gcd" = some (.builtin "math.gcd")
  lc : G.lc = true → mg "lcm" = some (.builtin "math.lcm")
  fi : ∀ q ∈ G.me, PySem.W.fnIn K (He.ma K (He.ga K q.1) q.2.1) = true
  xs : ∀ q ∈ G.xs, XsOk (tbl K) mg q
  nsm : ∀ (x : Str) (a : Addr), PySem.W.nsIn K mainGlobals x = some (some (.ref a)) → mg x = some (.ref a)
  laK_ : laK K ds = true
theorem dv_rep {H : Hp} (T : TopOk G ds mg K) {a : He.Dv} {d : D} (h : dvD G a d = true) : Rep (tbl K) H (a.v K) d := by
  unfold dvD at h
  split at h
  · exact .non
  · rw [beq_iff_eq] at h; rw [h]; exact .bl _
  · rw [beq_iff_eq] at h; rw [h]; exact .int _
  · rw [of_decide_eq_true h]; exact .str _
  · rename_i x l
    rw [List.any_eq_true] at h
    obtain ⟨p, hp, e⟩ := h
    simp only [Bool.and_eq_true, decide_eq_true_eq] at e
    obtain ⟨u, g1, g2, g3⟩ := T.gl p hp
    have e2 := D.beq_of e.2
    rw [e2] at g3
    rw [e.1] at g2
    -- a tuple's address
    cases u with
    | ref a =>
      obtain ⟨v, r1, r2⟩ := repK_ok (T := tbl K) g3
      have ev : v = .ref a := by
        cases v <;> first
          | (obtain ⟨_, z⟩ := r1; cases z; done)
          | (cases r1; done)
          | (cases r1; rfl)
      have ea : He.ga K x = a := by
        unfold He.ga
        rw [g2]
      show Rep (tbl K) H (.ref (He.ga K x)) (.tup l)
      rw [ea, ← ev]
      exact r2 H
    | _ => simp [repK] at g3
  · cases h
theorem dv_reps {H : Hp} (T : TopOk G ds mg K) : ∀ {as : List He.Dv} {l : List D}, dvDs G as l = true → RepA (tbl K) H (as.map (He.Dv.v K)) l
  | [], [], _ => .nil
  | a :: as, d :: l, h => .cons (dv_rep T (and2 h).1) (dv_reps T (and2 h).2)
  | [], _ :: _, h => by cases h
  | _ :: _, [], h => by cases h
theorem glo_at (T : TopOk G ds mg K) {d : DI} {x : Str} (hd : d ∈ ds) (hat : d.at_ = (x, none)) (hpp : d.pp = false) : mg x = some (.ref (d.ad K)) := by
  have m : He.Fa.glo d.at_.1 ∈ faL G ds := by
    unfold faL
    simp only [List.mem_append]
    refine .inl (.inl (.inl (.inl (.inl (.inl ?_)))))
    refine List.mem_map.mpr ⟨d, List.mem_filter.mpr ⟨hd, ?_⟩, rfl⟩
    rw [hpp, hat]; rfl
  have g := T.mgr _ m
  rw [hat] at g
  rw [g]
  unfold DI.ad
  rw [hpp, hat]
  rfl
/-- what is known of the def that calls what it gets -/
theorem ref_ok (L : Look G ds sh shm jr) (T : TopOk G ds mg K) {j : Nat} (h1 : refL G ds j = true) (h2 : refK K G ds j = true) (n : Nat) : RefOk G (tbl K) (semL ds n) P w mg base := by
  unfold refL at h1
  unfold refK at h2
  split at h1
  · rename_i dr dw er ew
    rw [er] at h2
    dsimp only at h2
    cases eb : refB dr.st with
    | none => rw [eb] at h2; cases h2
    | some q =>
      obtain ⟨cn, wn⟩ := q
      rw [eb] at h1 h2
      dsimp only at h1 h2
      simp only [Bool.and_eq_true, decide_eq_true_eq, Bool.not_eq_true', List.isEmpty_iff] at h1 h2
      obtain ⟨⟨⟨⟨⟨⟨⟨⟨⟨⟨⟨⟨⟨a1, a2⟩, a3⟩, a4⟩, a5⟩, a6⟩, a7⟩, a8⟩, a9⟩, a10⟩, a11⟩, a12⟩, a13⟩, a14⟩ := h1
      obtain ⟨c1, c2⟩ := h2
      have mr : dr ∈ ds := List.mem_of_getElem? er
      have mw : dw ∈ ds := List.mem_of_getElem? ew
      obtain ⟨gd, Fr⟩ := T.dok dr mr
      obtain ⟨fd, Fw⟩ := T.dok dw mw
      have S := scpB_ok (show scpB dr.N dr.ps (defScope dr.st) = true by
        have := look_at L er
        unfold chkD at this
        simp only [Bool.and_eq_true] at this
        exact this.1.1.1.1.1.1.1.1.1)
      have Br := L.bnd.get dr mr a10 K _ gd Fr
      have Bw := L.bnd.get dw mw a12 K _ fd Fw
      have e1 : dr.dd.dvs K = [] := by unfold DI.dd He.DefD.dvs; rw [a6]; rfl
      have e2 : dr.dd.kws K = [] := by unfold DI.dd He.DefD.kws; rw [a7]; rfl
      rw [e1, e2, a2, a4] at Fr
      rw [a8] at Br
      rw [a8, a9] at S
      have hP : (ds.map (·.F))[G.hw]? = some dw.F := by rw [List.getElem?_map, ew]; rfl
      have HH : HotOk G (tbl K) (sem (ds.map (·.F))) P w mg base G.hw (dw.ad K) fd dw.ps := fn_okH hP a13 (look_at L ew) (fun x hx => T.mgf x (by
        unfold faL
        simp only [List.mem_append]
        exact .inl (.inl (.inl (.inl (.inl (.inr (List.mem_map.mpr ⟨x, hx, rfl⟩))))))) ) T.xs Fw
      refine ⟨dr.ad K, dw.ad K, He.ga K cn, dr.st, gd, fd, dw.ps, cn, wn, glo_at T mr a3 a5, Fr, S, Br, eb, T.nsm _ _ (He.eqO_ok c1), fun c hc => ⟨He.ga K c, rfl, of_decide_eq_true (List.all_eq_true.mp c2 c hc)⟩, glo_at T mw a1 a11, Fw.kp, Bw, a14, ?_⟩
      intro p c C0 dx hcx hcl hz hf A outer s H args us vs Q hr hpin e0 hb r hsp
      refine HH p c C0 dx hcx hcl hz hf A outer s H args us vs Q hr hpin e0 hb r ?_
      obtain ⟨U, ds', x1, x2, x3, x4, x5⟩ := hsp
      refine ⟨U, ds', x1, x2, x3, x4, ?_⟩
      by_cases hn : G.hw < n
      · simp only [if_pos hn] at x5
        exact x5
      · simp only [if_neg hn] at x5
  · cases h1
/-- a def that makes lambdas has a table of its own -/
theorem lam_ok (L : Look G ds sh shm jr) (T : TopOk G ds mg K) (htl : TabC.tl = (laL ds).map fun d => ((He.cT K d.at_).2, lamQ d.qual)) (TB : ∀ d ∈ laL ds, LamX.TabB base mg (He.cT K d.at_).1 (He.cT K d.at_).2) {d : DI} (hd : d ∈ ds) (hl : d.la = true) : LamF K mg base d (d.ad K) := by
  intro oc od fd osl lk
  have hm : d ∈ laL ds := List.mem_filter.mpr ⟨hd, hl⟩
  have u := T.laK_
  unfold laK at u
  obtain ⟨hpp, hu⟩ := and2 (List.all_eq_true.mp u d hm)
  have hpp : d.pp = false := by simpa using hpp
  have ea : d.ad K = He.fAd K d.at_ := by unfold DI.ad; rw [hpp]; rfl
  obtain ⟨fd', F⟩ := T.dok d hd
  obtain ⟨oc', od', dV, kV, doc, pm, an, cdv, ct, osl', e1, lk', hcd, _, _⟩ := F.ex
  rw [lk'] at lk
  obtain ⟨c, ec⟩ := He.codeIn_ref hcd
  have efd : fd = fd' := by
    have := Option.some.inj lk
    injection this with _ _ z _
    injection z with z
    exact z.symm
  have ecode : fd.code = .ref c := by rw [efd, e1]; exact ec
  have eco : He.codeOf K d.at_ = c := He.codeOf_eq (by rw [← ea]; rw [lk']) (by rw [← efd]; exact ecode)
  refine ⟨c, (He.cT K d.at_).2, ecode, ?_, ?_, fun p hp e => ?_⟩
  · have := TB d hm
    rw [show (He.cT K d.at_).1 = c from eco] at this
    exact this
  · rw [htl]
    exact List.mem_map.mpr ⟨d, hm, rfl⟩
  · rw [htl] at hp
    obtain ⟨b, hb, rfl⟩ := List.mem_map.mp hp
    have q := List.all_eq_true.mp hu b hb
    have e : (He.cT K b.at_).2 = (He.cT K d.at_).2 := e
    rw [e] at q
    simp at q
    exact q.symm
theorem all_ok (L : Look G ds sh shm jr) (T : TopOk G ds mg K) (htl : TabC.tl = (laL ds).map fun d => ((He.cT K d.at_).2, lamQ d.qual)) (TB : ∀ d ∈ laL ds, LamX.TabB base mg (He.cT K d.at_).1 (He.cT K d.at_).2)
    (hR : ∀ d ∈ ds, d.la = true → ∀ n, RefOk G (tbl K) (semL ds n) P w mg base) : ∀ n (b : Bool), (b = true → ∀ n, RefOk G (tbl K) (semL ds n) P w mg base) → FF { G with lv := n, la := b } (tbl K) (semL ds n) n P w mg base := by
  intro n
  induction n using Nat.strongRecOn with
  | ind n ih =>
    intro b hb0
    have tab := L.tab
    unfold tabB at tab
    simp only [Bool.and_eq_true] at tab
    obtain ⟨⟨⟨t1, t2⟩, t3⟩, t4⟩ := tab
    have one : ∀ {j : Nat} {d : DI}, ds[j]? = some d → j < n → d.hot = false → ∃ fd, FunD K d.nm d.qual (defArgs d.st) (defBody d.st) (defScope d.st) (d.dd.dvs K) (d.dd.kws K) (d.ad K) fd ∧ DefOk { G with lv := n, la := b } (tbl K) (semL ds n) P w mg base j (d.ad K) fd d.ps :=
      fun {j d} e hj hh => def_ok L e hj hh (ih j hj d.la fun hl => hR d (List.mem_of_getElem? e) hl) (fun hl => lam_ok L T htl TB (List.mem_of_getElem? e) hl) (T.dok d (List.mem_of_getElem? e))
    have fnAt : ∀ {j : Nat} {x : Str}, G.fn[j]? = some x → x ∈ G.gs → ∃ d, ds[j]? = some d ∧ d.hot = false ∧ mg x = some (.ref (d.ad K)) := fun {j x} hx hgs => by
      have hj2 : j < ds.length := by
        rw [← L.len]
        exact (List.getElem?_eq_some_iff.mp hx).1
      have e : ds[j]? = some ds[j] := List.getElem?_eq_getElem hj2
      have hc := look_at L e
      unfold chkD at hc
      simp only [Bool.and_eq_true, decide_eq_true_eq] at hc
      have h4 := hc.1.1.1.1.1.1.2
      rw [hx] at h4
      have ex : x = ds[j].name := Option.some.inj h4
      have q := List.all_eq_true.mp t4 j (List.mem_range.mpr hj2)
      rw [e] at q
      have q : (!inB ds[j].name G.gs || (decide (ds[j].at_ = (ds[j].name, none)) && !ds[j].pp && !ds[j].hot)) = true := q
      have hin : inB ds[j].name G.gs = true := by
        unfold inB
        rw [List.any_eq_true]
        exact ⟨x, hgs, decide_eq_true ex⟩
      rw [hin] at q
      simp only [Bool.not_true, Bool.false_or, Bool.and_eq_true, decide_eq_true_eq, Bool.not_eq_true'] at q
      obtain ⟨q, qh⟩ := q
      refine ⟨_, e, qh, ?_⟩
      have m : He.Fa.glo ds[j].at_.1 ∈ faL G ds := by
        unfold faL
        simp only [List.mem_append]
        refine .inl (.inl (.inl (.inl (.inl (.inl ?_)))))
        refine List.mem_map.mpr ⟨ds[j], List.mem_filter.mpr ⟨List.getElem_mem hj2, ?_⟩, rfl⟩
        rw [q.2, q.1]; rfl
      have := T.mgr _ m
      rw [ex]
      have e1 : ds[j].at_.1 = ds[j].name := by rw [q.1]
      rw [e1] at this
      rw [this]
      unfold DI.ad
      rw [q.2, q.1]
      rfl
    refine ⟨fun j x hj hx hgs => ?_, fun p hp => ?_, fun x hx => ?_, T.gc, T.lc, fun q hq hj => ?_, fun q hq hj => ?_, fun q hq hj => ?_, fun q hq => ?_, fun q hq hj x hx hgs => ?_, fun q hq hj c hc => ?_, fun c hc => ?_, T.xs, fun h => hb0 h n⟩
    · obtain ⟨d, e, hh, m⟩ := fnAt hx hgs
      obtain ⟨fd, F, D⟩ := one e hj hh
      exact ⟨_, fd, d.ps, m, D⟩
    · obtain ⟨u, g1, g2, g3⟩ := T.gl p hp
      obtain ⟨v, r1, r2⟩ := repK_ok (T := tbl K) g3
      exact ⟨v, u, g1, r1, r2⟩
    · refine T.mgf x ?_
      unfold faL
      simp only [List.mem_append]
      exact .inl (.inl (.inl (.inl (.inl (.inr (List.mem_map.mpr ⟨x, hx, rfl⟩))))))
    · have z := List.all_eq_true.mp t1 q hq
      cases e : ds[q.2.2]? with
      | none => rw [e] at z; cases z
      | some d =>
        rw [e] at z
        simp only [Bool.and_eq_true, decide_eq_true_eq, Bool.not_eq_true'] at z
        obtain ⟨fd, F, D⟩ := one e hj z.1.2
        have ea : d.ad K = He.ma K (He.ga K q.1) q.2.1 := by
          unfold DI.ad
          rw [z.1.1.2, z.1.1.1]
          rfl
        have m1 : He.Fa.cls q.1 ∈ faL G ds := by
          unfold faL
          simp only [List.mem_append]
          exact .inl (.inl (.inl (.inr (List.mem_flatMap.mpr ⟨q, hq, by simp⟩))))
        have m2 : He.Fa.meth q.1 q.2.1 ∈ faL G ds := by
          unfold faL
          simp only [List.mem_append]
          exact .inl (.inl (.inl (.inr (List.mem_flatMap.mpr ⟨q, hq, by simp⟩))))
        refine ⟨He.ga K q.1, _, fd, d.ps, rfl, He.cls_ok (T.fa _ m1), ?_, ?_, D, ltN_of z.2⟩
        · rw [ea]; exact He.meth_ok (T.fa _ m2)
        · rw [ea]; exact T.fi q hq
    · have z := List.all_eq_true.mp t2 q hq
      cases e : ds[q.2.2]? with
      | none => rw [e] at z; cases z
      | some d =>
        rw [e] at z
        simp only [Bool.and_eq_true, decide_eq_true_eq] at z
        obtain ⟨fd, F, D⟩ := one e hj (by simpa using z.1.1.2)
        obtain ⟨p, hp⟩ := T.prp d (List.mem_of_getElem? e) z.1.1.1.2
        have m1 : He.Fa.cls q.1 ∈ faL G ds := by
          unfold faL
          simp only [List.mem_append]
          exact .inl (.inl (.inr (List.mem_map.mpr ⟨q, hq, rfl⟩)))
        rw [z.1.1.1.1] at hp
        exact ⟨He.ga K q.1, p, _, fd, d.ps, rfl, He.cls_ok (T.fa _ m1), hp, D, ltN_of z.1.2, OT.isFz_of z.2⟩
    · have z := List.all_eq_true.mp t3 q hq
      cases e : ds[q.2]? with
      | none => rw [e] at z; cases z
      | some d =>
        rw [e] at z
        simp only [Bool.and_eq_true, decide_eq_true_eq, Bool.not_eq_true'] at z
        obtain ⟨fd, F, D⟩ := one e hj z.1.2
        have ea : d.ad K = He.ma K (He.ga K q.1) "__init__" := by
          unfold DI.ad
          rw [z.1.1.2, z.1.1.1]
          rfl
        have m1 : He.Fa.glo q.1 ∈ faL G ds := by
          unfold faL
          simp only [List.mem_append]
          exact .inl (.inl (.inl (.inl (.inr (List.mem_flatMap.mpr ⟨q, hq, by simp⟩)))))
        have m2 : He.Fa.mkr q.1 ∈ faL G ds := by
          unfold faL
          simp only [List.mem_append]
          exact .inl (.inl (.inl (.inl (.inr (List.mem_flatMap.mpr ⟨q, hq, by simp⟩)))))
        have hl : ∃ t, (G.lt[q.2]?).getD none = some (.oi [] [], t) := by
          have z2 := z.2
          split at z2
          · rename_i t e2; exact ⟨t, e2⟩
          · cases z2
        obtain ⟨t, hl⟩ := hl
        exact ⟨He.ga K q.1, _, fd, d.ps, t, rfl, T.mgr _ m1, by rw [ea]; exact He.mkr_ok (T.fa _ m2), D, hl⟩
    · have m1 : He.Fa.cls q.1 ∈ faL G ds := by
        unfold faL
        simp only [List.mem_append]
        exact .inl (.inr (List.mem_flatMap.mpr ⟨q, hq, by simp⟩))
      have m2 : He.Fa.noat q.1 q.2 ∈ faL G ds := by
        unfold faL
        simp only [List.mem_append]
        exact .inl (.inr (List.mem_flatMap.mpr ⟨q, hq, by simp⟩))
      exact ⟨He.ga K q.1, rfl, He.cls_ok (T.fa _ m1), He.noat_ok (T.fa _ m2)⟩
    · have hq' : q ∈ sh.map Sh.q := by rw [← L.sh_]; exact hq
      obtain ⟨s, hs, rfl⟩ := List.mem_map.mp hq'
      obtain ⟨d, e, hh, m⟩ := fnAt hx hgs
      have e : ds[s.j]? = some d := e
      obtain ⟨fd, F, D⟩ := one e hj hh
      have b := List.all_eq_true.mp L.shB s hs
      unfold shOkB at b
      rw [e] at b
      simp only [Bool.and_eq_true, decide_eq_true_eq] at b
      obtain ⟨dV, v1, v2, v3⟩ := L.shA.get s hs d e K _ fd F
      exact ⟨_, fd, d.ps, _, dV, m, D, v1, fun H => dv_reps T b.1.2, by rw [List.length_map]; have := b.1.1; show s.n + s.ks.length + s.dl.length = _; omega, v2, v3, ltN_of (List.all_eq_true.mp L.shN s hs)⟩
    · have hq' : q ∈ shm.map Sh.q := by rw [← L.shm_]; exact hq
      obtain ⟨s, hs, rfl⟩ := List.mem_map.mp hq'
      have z := List.all_eq_true.mp t3 _ hc
      cases e : ds[s.j]? with
      | none =>
        have e' : ds[((c, s.q.1) : Str × Nat).2]? = none := e
        rw [e'] at z; cases z
      | some d =>
        have e' : ds[((c, s.q.1) : Str × Nat).2]? = some d := e
        rw [e'] at z
        simp only [Bool.and_eq_true, decide_eq_true_eq, Bool.not_eq_true'] at z
        obtain ⟨fd, F, D⟩ := one e hj z.1.2
        have ea : d.ad K = He.ma K (He.ga K c) "__init__" := by
          unfold DI.ad
          rw [z.1.1.2, z.1.1.1]
          rfl
        have m1 : He.Fa.glo c ∈ faL G ds := by
          unfold faL
          simp only [List.mem_append]
          exact .inl (.inl (.inl (.inl (.inr (List.mem_flatMap.mpr ⟨_, hc, by simp⟩)))))
        have m2 : He.Fa.mkr c ∈ faL G ds := by
          unfold faL
          simp only [List.mem_append]
          exact .inl (.inl (.inl (.inl (.inr (List.mem_flatMap.mpr ⟨_, hc, by simp⟩)))))
        have hl : ∃ t, (G.lt[s.j]?).getD none = some (.oi [] [], t) := by
          have z2 := z.2
          split at z2
          · rename_i t e2; exact ⟨t, e2⟩
          · cases z2
        obtain ⟨t, hl⟩ := hl
        have b := List.all_eq_true.mp L.shmB s hs
        unfold shOkB at b
        rw [e] at b
        simp only [Bool.and_eq_true, decide_eq_true_eq] at b
        obtain ⟨dV, v1, v2, v3⟩ := L.shmA.get s hs d e K _ fd F
        exact ⟨He.ga K c, _, fd, d.ps, t, _, dV, rfl, T.mgr _ m1, by rw [ea]; exact He.mkr_ok (T.fa _ m2), D, hl, v1, fun H => dv_reps T b.1.2, by rw [List.length_map]; have := b.1.1; show s.n + 1 + s.ks.length + s.dl.length = _; omega, v2, v3⟩
    · have m1 : He.Fa.glo c ∈ faL G ds := by
        unfold faL
        simp only [List.mem_append]
        exact .inr (List.mem_flatMap.mpr ⟨c, hc, by simp⟩)
      have m2 : He.Fa.exc c ∈ faL G ds := by
        unfold faL
        simp only [List.mem_append]
        exact .inr (List.mem_flatMap.mpr ⟨c, hc, by simp⟩)
      exact ⟨He.ga K c, rfl, T.mgr _ m1, He.exc_ok (T.fa _ m2)⟩
end
omit [TabC] in
theorem cx_none {P : Program} {w : World} {H : Hp} {s : Shared} {e : Value} {s' : Shared} (h : L2.CX P w [] H s (fun _ _ _ => False) e s') : False := by
  obtain ⟨_, _, _, _, _, _, _, _, _, _, _, _, z⟩ := h
  exact z.elim
def tfL (ds : List DI) : List He.Defn := (laL ds).map (·.at_)
theorem top_ok {K : PySem.W.Frag} {mg : Str → Option Value} {h : Heap} {ds : List DI} {G : Gt} {jr : Option Nat} (X : K.In h) (GG : h.Ns mainGlobals mg) (c : SaysP (faL G ds) (fnL ds) (pgL ds) (tfL ds) (exB G ds jr) h K) : TopOk G ds mg K := by
  have ex0 := c.more
  have sd := c.d
  unfold exB at ex0
  obtain ⟨ex01, _⟩ := and2 ex0
  obtain ⟨ex, exl⟩ := and2 ex01
  unfold gfB at ex
  simp only [Bool.and_eq_true] at ex
  obtain ⟨⟨⟨⟨ex1, ex2⟩, ex3⟩, ex4⟩, ex5⟩ := ex
  have pgm : ∀ d ∈ ds, d.pp = true → (d.at_.1, d.at_.2.getD "", d.dd) ∈ pgL ds := fun d hd hp => List.mem_filterMap.mpr ⟨d, hd, by unfold DI.pg; rw [if_pos hp]⟩
  refine ⟨fun d hd => ?_, fun d hd hp => ?_, fun f hf => sd.facts hf, fun x hx => He.glo_ok X GG (sd.facts hx), fun x hx => He.free_ok X GG (sd.facts hx), fun p hp => ?_, fun hgc => ?_, fun hlc => ?_, fun q hq => List.all_eq_true.mp ex4 q hq, fun q hq => ?_, fun x a e => PySem.W.mg_of X GG e, exl⟩
  · by_cases hp : d.pp = true
    · obtain ⟨_, fd, F⟩ := c.p _ (pgm d hd hp)
      refine ⟨fd, ?_⟩
      unfold DI.ad
      rw [if_pos hp]
      exact F
    · obtain ⟨fd, F⟩ := sd.defs (d := d.dd) (List.mem_map.mpr ⟨d, List.mem_filter.mpr ⟨hd, by simpa using hp⟩, rfl⟩)
      refine ⟨fd, ?_⟩
      unfold DI.ad
      rw [if_neg hp]
      exact F
  · obtain ⟨⟨p, h1⟩, _⟩ := c.p _ (pgm d hd hp)
    refine ⟨p, ?_⟩
    unfold DI.ad
    rw [if_pos hp]
    exact h1
  · have z := List.all_eq_true.mp ex1 p hp
    split at z
    · rename_i u q
      exact ⟨u, PySem.W.mg_of X GG q, q, z⟩
    · cases z
  · rw [hgc] at ex2
    exact PySem.W.mg_of X GG (He.eqO_ok (by simpa using ex2))
  · rw [hlc] at ex3
    exact PySem.W.mg_of X GG (He.eqO_ok (by simpa using ex3))
  · have z := List.all_eq_true.mp ex5 q hq
    unfold xsK at z
    obtain ⟨z1, z2⟩ := and2 z
    have E := excCB_ok z1
    split at z2
    · rename_i e
      obtain ⟨y1, y2⟩ := and2 z2
      exact ⟨He.ga K q.1, .ty "ValueError", .type "ValueError", rfl, E, .inr ⟨PySem.W.mg_none_of X GG (He.eqO_ok y1), e, rfl, rfl⟩, of_decide_eq_true y2⟩
    · obtain ⟨y1, y2⟩ := and2 z2
      exact ⟨He.ga K q.1, .ref (He.ga K q.2.1), .ref (He.ga K q.2.1), rfl, E, .inl ⟨_, PySem.W.mg_of X GG (He.eqO_ok y1), rfl, rfl⟩, of_decide_eq_true y2⟩
omit [TabC] in
theorem law_at {l : PySem.W.OpenLaw} {w : World} {K : PySem.W.Frag} {mg : Str → Option Value} {fa : Addr} {h : Heap} {n jl : Nat} {x : Str} {ds : List DI} {d : DI} {G : Gt} {sh shm : List Sh} {jr : Option Nat} (X : K.In h) (GG : h.Ns mainGlobals mg) (L : Look G ds sh shm jr)
    (c : SaysP (faL G ds) (fnL ds) (pgL ds) (tfL ds) (exB G ds jr) h K) (hd : ds[jl]? = some d) (hfa : mg d.nm = some (.ref fa)) (hat : d.at_ = (d.nm, none)) (hpp : d.pp = false) (hps : d.ps = [x]) (hty : d.F.ty = .fz) (hlt : d.F.lt = none) (hhot : d.hot = false) (hdv : d.dv = []) (hkd : d.kd = [])
    (hbl : ∀ (kV doc pm : Value) (an : Option Addr) (cdv ct : Value) (us : List Value), us.length = d.ps.length → bindArgs (PySem.W.fnOf d.nm d.qual (defArgs d.st) (defBody d.st) (defScope d.st) .none kV doc pm an cdv ct) ⟨us, []⟩ = pure (d.ps.zip us))
    (math : ∀ ns : List Int, ns.length ≤ n → (∀ z ∈ ns, Builtin.Int.intBits z ≤ 1048576) → sem (ds.map (·.F)) jl [.scr ns] = .ok (.bl true)) : LamX.LawAtS l w K (L2.CX l.prog w) (jl + 1) n x mg fa h := by
  letI ti : TabC := ⟨(laL ds).map fun d => ((He.cT K d.at_).2, lamQ d.qual)⟩
  have T := top_ok X GG c
  have hmem : d ∈ ds := List.mem_of_getElem? hd
  obtain ⟨fd, F⟩ := T.dok d hmem
  have g := glo_at T hmem hat hpp
  have ea : d.ad K = He.ga K d.nm := by
    unfold DI.ad
    rw [hpp, hat]
    rfl
  rw [hfa, ea] at g
  have efa : fa = He.ga K d.nm := by cases g; rfl
  subst efa
  rw [ea] at F
  have edv : d.dd.dvs K = [] := by unfold DI.dd He.DefD.dvs; rw [hdv]; rfl
  have ekd : d.dd.kws K = [] := by unfold DI.dd He.DefD.kws; rw [hkd]; rfl
  have F0 := F
  rw [edv, ekd] at F
  have cs : ∀ p ∈ (tfL ds).map (He.cT K), ∃ b ∈ laL ds, p = He.cT K b.at_ := fun p hp => by
    obtain ⟨y, hy, rfl⟩ := List.mem_map.mp hp
    obtain ⟨b, hb, rfl⟩ := List.mem_map.mp hy
    exact ⟨b, hb, rfl⟩
  have tm : ∀ b ∈ laL ds, b.at_ ∈ tfL ds := fun b hb => List.mem_map.mpr ⟨b, hb, rfl⟩
  refine ⟨fd, (tfL ds).map (He.cT K), spS (tbl K) (sem (ds.map (·.F))) .fz 1 jl, (fun p hp => ?_), (fun p hp => ?_), (fun p hp => ?_), fun s u => ?_, fun H a ns hn hbits hT hS => ?_, fun base X' GG' TB => ?_⟩
  · obtain ⟨b, hb, rfl⟩ := cs p hp
    exact c.nil_ _ (tm b hb)
  · obtain ⟨b, hb, rfl⟩ := cs p hp
    exact c.none_ _ (tm b hb)
  · obtain ⟨b, hb, rfl⟩ := cs p hp
    exact PySem.W.codeHd_of_K X (c.hd _ (tm b hb))
  · have z := FunD.bindsA (ps := d.ps) F hbl s [u] (by rw [hps]; rfl)
    rw [hps] at z
    exact z
  · refine ⟨fun _ => False, [.scr ns], (fun _ h => h.elim), .cons (.scr ?_) .nil, rfl, (fun p hp => ?_), ?_⟩
    · exact Same.seq (Same.of2 fun b o e => msk_some.mpr ⟨id, e⟩) hS
    · obtain ⟨b, hb, rfl⟩ := List.mem_map.mp hp
      exact LamX.TabS.nil (hT (He.cT K b.at_) (List.mem_map.mpr ⟨b.at_, tm b hb, rfl⟩))
    · rw [math ns hn hbits]
      intro v H' f _ _ _ o
      cases o with
      | fz r => cases r; rfl
  · have hP : (ds.map (·.F))[jl]? = some d.F := by rw [List.getElem?_map, hd]; rfl
    have TB' : ∀ b ∈ laL ds, LamX.TabB base mg (He.cT K b.at_).1 (He.cT K b.at_).2 := fun b hb => TB (He.cT K b.at_) (List.mem_map.mpr ⟨b.at_, tm b hb, rfl⟩)
    have hR : ∀ b ∈ ds, b.la = true → ∀ n, RefOk G (tbl K) (semL ds n) l.prog w mg base := fun b hb hla n => by
      have hl := L.la
      have hne : (laL ds).isEmpty = false := by
        cases e : laL ds with
        | nil =>
          have : b ∈ laL ds := List.mem_filter.mpr ⟨hb, hla⟩
          rw [e] at this
          cases this
        | cons _ _ => rfl
      rw [hne, Bool.false_or] at hl
      cases jr with
      | none => cases hl
      | some j =>
        have m := c.more
        unfold exB at m
        exact ref_ok L T hl (and2 m).2 n
    have ff := all_ok (P := l.prog) (w := w) (base := base) L T rfl TB' hR jl d.la fun hl => hR d hmem hl
    have := fn_okN hP hlt hhot (look_at L hd) ff L.cm (fun hl => by
      have := lam_ok (base := base) L T rfl TB' hmem hl
      rw [ea] at this
      exact this) F0
    rw [hty, hps] at this
    exact this
omit [TabC] in
/-- the top's run, looked at in three ways -/
theorem map3 {α β γ δ : Type} {o : Option α} {f : α → β} {g : α → γ} {h : α → δ} {b : β} {c : γ} {d : δ} (h1 : o.map f = some b) (h2 : o.map g = some c) (h3 : o.map h = some d) : o.map (fun x => (f x, g x, h x)) = some (b, c, d) := by
  cases o with
  | none => cases h1
  | some x =>
    simp only [Option.map_some, Option.some.injEq] at h1 h2 h3 ⊢
    rw [h1, h2, h3]
end Pv

/-! Pv, part T: fractions: what the text's pairs of ints stand for. -/
namespace Pv
open PySem PySem.Spec PyProof.Rows L2
/-! ### sizes -/
theorem log2_le {n k : Nat} (h : n < 2 ^ k) : n.log2 ≤ k := by
  by_cases e : n = 0
  · subst e; simp
  · exact Nat.le_of_lt ((Nat.log2_lt e).mpr h)
theorem mulOk_of {i j : Int} {k l : Nat} (hi : i.natAbs < 2 ^ k) (hj : j.natAbs < 2 ^ l) (h : k + l < 1000000) : mulOk i j = true := by
  unfold mulOk
  have := log2_le hi
  have := log2_le hj
  exact decide_eq_true (by omega)
theorem divOk_of {j : Int} {k : Nat} (hj : j.natAbs < 2 ^ k) (h0 : j ≠ 0) (h : k < 9000) : divOk j = true := by
  unfold divOk
  have := log2_le hj
  simp [h0]
  omega
theorem mul_sz {i j : Int} {k l : Nat} (hi : i.natAbs < 2 ^ k) (hj : j.natAbs < 2 ^ l) : (i * j).natAbs < 2 ^ (k + l) := by
  rw [Int.natAbs_mul, Nat.pow_add]
  exact Nat.mul_lt_mul'' hi hj
theorem add_sz {i j : Int} {k : Nat} (hi : i.natAbs < 2 ^ k) (hj : j.natAbs < 2 ^ k) : (i + j).natAbs < 2 ^ (k + 1) := by
  rw [Nat.pow_succ]
  omega
theorem sub_sz {i j : Int} {k : Nat} (hi : i.natAbs < 2 ^ k) (hj : j.natAbs < 2 ^ k) : (i - j).natAbs < 2 ^ (k + 1) := by
  rw [Nat.pow_succ]
  omega
theorem pow_le {k l n : Nat} (h : n < 2 ^ k) (hl : k ≤ l) : n < 2 ^ l := Nat.lt_of_lt_of_le h (Nat.pow_le_pow_right (by decide) hl)
/-! ### fractions -/
def fr (q : Rat) : D := .tup [.int q.num, .int (q.den : Int)]
structure Sz (q : Rat) (k : Nat) : Prop where
  n : q.num.natAbs < 2 ^ k
  d : q.den < 2 ^ k
theorem Sz.mono {q : Rat} {k l : Nat} (h : Sz q k) (hl : k ≤ l) : Sz q l := ⟨pow_le h.n hl, pow_le h.d hl⟩
theorem Sz.d' {q : Rat} {k : Nat} (h : Sz q k) : (q.den : Int).natAbs < 2 ^ k := h.d
theorem gcd_dvd_l (n d : Int) : ((Int.gcd n d : Nat) : Int) ∣ n := Int.gcd_dvd_left ..
theorem gcd_dvd_r (n d : Int) : ((Int.gcd n d : Nat) : Int) ∣ d := Int.gcd_dvd_right ..
theorem gcd_pos {n d : Int} (h : d ≠ 0) : 0 < Int.gcd n d := Int.gcd_pos_of_ne_zero_right n h
/-- n and d by their common measure, the sign at the top -/
theorem fr_divInt {n d : Int} (h : d ≠ 0) : fr (Rat.divInt n d) = .tup [.int (n.fdiv (if d < 0 then -(Int.gcd n d : Nat) else (Int.gcd n d : Nat))), .int (d.fdiv (if d < 0 then -(Int.gcd n d : Nat) else (Int.gcd n d : Nat)))] := by
  have g0 : ((Int.gcd n d : Nat) : Int) ≠ 0 := by have := gcd_pos (n := n) h; omega
  obtain ⟨a, ha⟩ := gcd_dvd_l n d
  obtain ⟨b, hb⟩ := gcd_dvd_r n d
  unfold fr
  rw [Rat.num_divInt, Rat.den_divInt, if_neg h, Int.gcd_comm d n]
  have e1 : d.sign * n / ((Int.gcd n d : Nat) : Int) = n.fdiv (if d < 0 then -(Int.gcd n d : Nat) else (Int.gcd n d : Nat)) := by
    split
    · rename_i hd
      rw [Int.sign_eq_neg_one_of_neg hd]
      have : n.fdiv (-((Int.gcd n d : Nat) : Int)) = -a := by
        conv => lhs; lhs; rw [ha]
        rw [show ((Int.gcd n d : Nat) : Int) * a = -((Int.gcd n d : Nat) : Int) * (-a) by rw [Int.neg_mul_neg]]
        exact Int.mul_fdiv_cancel_left _ (by omega)
      rw [this]
      conv => lhs; lhs; rw [ha]
      rw [show (-1 : Int) * (((Int.gcd n d : Nat) : Int) * a) = ((Int.gcd n d : Nat) : Int) * (-a) by rw [Int.mul_neg]; omega]
      exact Int.mul_ediv_cancel_left _ g0
    · rename_i hd
      have hd : 0 < d := by omega
      rw [Int.sign_eq_one_of_pos hd, Int.one_mul]
      conv => lhs; lhs; rw [ha]
      conv => rhs; lhs; rw [ha]
      rw [Int.mul_fdiv_cancel_left _ g0, Int.mul_ediv_cancel_left _ g0]
  have e2 : ((d.natAbs / Int.gcd n d : Nat) : Int) = d.fdiv (if d < 0 then -(Int.gcd n d : Nat) else (Int.gcd n d : Nat)) := by
    rw [Int.natCast_ediv]
    split
    · rename_i hd
      have : d.fdiv (-((Int.gcd n d : Nat) : Int)) = -b := by
        conv => lhs; lhs; rw [hb]
        rw [show ((Int.gcd n d : Nat) : Int) * b = -((Int.gcd n d : Nat) : Int) * (-b) by rw [Int.neg_mul_neg]]
        exact Int.mul_fdiv_cancel_left _ (by omega)
      rw [this, show ((d.natAbs : Nat) : Int) = -d by omega]
      conv => lhs; lhs; rw [hb]
      rw [show -(((Int.gcd n d : Nat) : Int) * b) = ((Int.gcd n d : Nat) : Int) * (-b) by rw [Int.mul_neg]]
      exact Int.mul_ediv_cancel_left _ g0
    · rename_i hd
      rw [show ((d.natAbs : Nat) : Int) = d by omega]
      conv => lhs; lhs; rw [hb]
      conv => rhs; lhs; rw [hb]
      rw [Int.mul_fdiv_cancel_left _ g0, Int.mul_ediv_cancel_left _ g0]
  rw [e1, e2]
theorem sz_divInt {n d : Int} {k : Nat} (h : d ≠ 0) (hn : n.natAbs < 2 ^ k) (hd : d.natAbs < 2 ^ k) : Sz (Rat.divInt n d) k := by
  refine ⟨?_, ?_⟩
  · rw [Rat.num_divInt]
    refine Nat.lt_of_le_of_lt ?_ hn
    refine Nat.le_trans (Int.natAbs_ediv_le_natAbs _ _) ?_
    rw [Int.natAbs_mul]
    have : d.sign.natAbs ≤ 1 := by
      rcases Int.lt_trichotomy d 0 with z | z | z
      · rw [Int.sign_eq_neg_one_of_neg z]; decide
      · rw [z]; decide
      · rw [Int.sign_eq_one_of_pos z]; decide
    calc d.sign.natAbs * n.natAbs ≤ 1 * n.natAbs := Nat.mul_le_mul_right _ this
      _ = n.natAbs := Nat.one_mul _
  · rw [Rat.den_divInt, if_neg h]
    exact Nat.lt_of_le_of_lt (Nat.div_le_self _ _) hd
theorem den_ne (q : Rat) : (q.den : Int) ≠ 0 := by have := q.den_nz; omega
theorem den_pos (q : Rat) : (0 : Int) < q.den := by have := q.den_nz; omega
theorem divInt_add (a b : Rat) : Rat.divInt (a.num * b.den + b.num * a.den) (a.den * b.den) = a + b := by
  rw [← Rat.divInt_add_divInt _ _ (den_ne a) (den_ne b), Rat.num_divInt_den, Rat.num_divInt_den]
theorem divInt_mul (a b : Rat) : Rat.divInt (a.num * b.num) (a.den * b.den) = a * b := by
  rw [← Rat.divInt_mul_divInt, Rat.num_divInt_den, Rat.num_divInt_den]
theorem divInt_neg' (a : Rat) : Rat.divInt (-a.num) a.den = -a := by
  have := Rat.num_divInt_den (-a)
  rw [Rat.neg_num, Rat.neg_den] at this
  exact this
theorem divInt_sub (a b : Rat) : Rat.divInt (a.num * b.den - b.num * a.den) (a.den * b.den) = a - b := by
  have := divInt_add a (-b)
  rw [Rat.neg_num, Rat.neg_den] at this
  rw [Rat.sub_eq_add_neg, ← this]
  congr 1
  rw [Int.neg_mul, Int.sub_eq_add_neg]
/-! ### the text's own fractions -/
def fracFD : FD := ⟨2, 3, .fz, (.seq (.ite (.cmp .eq (.vr 1) (.ct (.int 0))) (.seq (.x (.rse "BadNumber") (.cons (.ct (.str "the denominator is zero")) .nil)) .skip) .skip) (.seq (.set 2 .fz (.blt .gcd (.cons (.vr 0) (.cons (.vr 1) .nil)))) (.seq (.ite (.cmp .lt (.vr 1) (.ct (.int 0))) (.seq (.set 2 .fz (.neg (.vr 2))) .skip) .skip) (.seq (.ret (.tp (.cons (.bin .fdiv (.vr 0) (.vr 2)) (.cons (.bin .fdiv (.vr 1) (.vr 2)) .nil)))) .skip)))), none⟩
theorem gcd_sz {n d : Int} {k : Nat} (h : d ≠ 0) (hd : d.natAbs < 2 ^ k) : Int.gcd n d < 2 ^ k :=
  Nat.lt_of_le_of_lt (Nat.le_of_dvd (by omega) (Nat.gcd_dvd_right n.natAbs d.natAbs)) hd
section
variable {P : List FD}
theorem eqD_int (i j : Int) : eqD (.int i) (.int j) = .ok (.bl (i == j)) := rfl
theorem frac_ok {j : Nat} (hP : P[j]? = some fracFD) {n d : Int} {k : Nat} (h : d ≠ 0) (hd : d.natAbs < 2 ^ k) (hk : k < 9000) : sem P j [.int n, .int d] = .ok (fr (Rat.divInt n d)) := by
  have g1 := gcd_sz (n := n) h hd
  have g0 := gcd_pos (n := n) h
  have e : ∀ g : Int, g.natAbs = Int.gcd n d → divOk g = true := fun g hg => divOk_of (k := k) (by rw [hg]; exact g1) (by omega) hk
  rw [sem_eq P hP, fr_divInt h]
  have hz : (d == 0) = false := by simp [h]
  by_cases hs : d < 0
  · have e1 := e (-(Int.gcd n d : Nat)) (by omega)
    have e2 : (decide (d < 0)) = true := by simp [hs]
    have g' : Nat.gcd n.natAbs d.natAbs = Int.gcd n d := rfl
    simp [runF, fracFD, exec, ev, cmpD, eqD_int, cmpI, hz, e2, bltD, binD, mkT, lim, Fl.out, FD.out, g', e1, hs]
  · have e1 := e ((Int.gcd n d : Nat)) (by omega)
    have e2 : (decide (d < 0)) = false := by simp [hs]
    have g' : Nat.gcd n.natAbs d.natAbs = Int.gcd n d := rfl
    simp [runF, fracFD, exec, ev, cmpD, eqD_int, cmpI, hz, e2, bltD, binD, mkT, lim, Fl.out, FD.out, g', e1, hs]
/-! plus, minus, times, .. each a def that makes two ints and calls frac -/
def pA : IE := .ix (.vr 0) (.ct (.int 0))
def pB : IE := .ix (.vr 0) (.ct (.int 1))
def qA : IE := .ix (.vr 1) (.ct (.int 0))
def qB : IE := .ix (.vr 1) (.ct (.int 1))
def plusFD (jf : Nat) : FD := ⟨2, 2, .fz, (.seq (.ret (.call jf (.cons (.bin .add (.bin .mul (.ix (.vr 0) (.ct (.int 0))) (.ix (.vr 1) (.ct (.int 1)))) (.bin .mul (.ix (.vr 1) (.ct (.int 0))) (.ix (.vr 0) (.ct (.int 1))))) (.cons (.bin .mul (.ix (.vr 0) (.ct (.int 1))) (.ix (.vr 1) (.ct (.int 1)))) .nil)))) .skip), none⟩
def minusFD (jf : Nat) : FD := ⟨2, 2, .fz, (.seq (.ret (.call jf (.cons (.bin .sub (.bin .mul (.ix (.vr 0) (.ct (.int 0))) (.ix (.vr 1) (.ct (.int 1)))) (.bin .mul (.ix (.vr 1) (.ct (.int 0))) (.ix (.vr 0) (.ct (.int 1))))) (.cons (.bin .mul (.ix (.vr 0) (.ct (.int 1))) (.ix (.vr 1) (.ct (.int 1)))) .nil)))) .skip), none⟩
def timesFD (jf : Nat) : FD := ⟨2, 2, .fz, (.seq (.ret (.call jf (.cons (.bin .mul (.ix (.vr 0) (.ct (.int 0))) (.ix (.vr 1) (.ct (.int 0)))) (.cons (.bin .mul (.ix (.vr 0) (.ct (.int 1))) (.ix (.vr 1) (.ct (.int 1)))) .nil)))) .skip), none⟩
def belowFD : FD := ⟨2, 2, .fz, (.seq (.ret (.cmp .lt (.bin .mul (.ix (.vr 0) (.ct (.int 0))) (.ix (.vr 1) (.ct (.int 1)))) (.bin .mul (.ix (.vr 1) (.ct (.int 0))) (.ix (.vr 0) (.ct (.int 1)))))) .skip), none⟩
def atmostFD : FD := ⟨2, 2, .fz, (.seq (.ret (.cmp .le (.bin .mul (.ix (.vr 0) (.ct (.int 0))) (.ix (.vr 1) (.ct (.int 1)))) (.bin .mul (.ix (.vr 1) (.ct (.int 0))) (.ix (.vr 0) (.ct (.int 1)))))) .skip), none⟩
/-- what makes a fraction of two ints: frac or the law's own -/
def MkQ (P : List FD) (j : Nat) : Prop := ∀ (n d : Int) (k : Nat), 0 < d → n.natAbs < 2 ^ k → d.natAbs < 2 ^ k → k < 9000 → sem P j [.int n, .int d] = .ok (fr (Rat.divInt n d))
theorem mkq_frac {j : Nat} (hP : P[j]? = some fracFD) : MkQ P j := fun n d k h hn hd hk => frac_ok hP (by omega) hd hk
theorem at0 (x y : D) : atD [x, y] 0 = .ok x := rfl
theorem at1 (x y : D) : atD [x, y] 1 = .ok y := rfl
theorem den_mul_pos (a b : Rat) : (0 : Int) < a.den * b.den := Int.mul_pos (den_pos a) (den_pos b)
theorem plus_ok {j jf : Nat} (hP : P[j]? = some (plusFD jf)) (hj : jf < j) (hf : MkQ P jf) {a b : Rat} {k l : Nat} (ha : Sz a k) (hb : Sz b l) (hk : k + l + 1 < 9000) : sem P j [fr a, fr b] = .ok (fr (a + b)) ∧ Sz (a + b) (k + l + 1) := by
  have m1 := mulOk_of ha.n hb.d' (by omega)
  have m2 := mulOk_of hb.n ha.d' (by omega)
  have m3 := mulOk_of ha.d' hb.d' (by omega)
  have z1 : (a.num * b.den + b.num * a.den).natAbs < 2 ^ (k + l + 1) := add_sz (mul_sz ha.n hb.d') (by rw [Nat.add_comm k l]; exact mul_sz hb.n ha.d')
  have z2 : ((a.den : Int) * b.den).natAbs < 2 ^ (k + l + 1) := pow_le (mul_sz ha.d' hb.d') (by omega)
  have c := hf _ _ _ (den_mul_pos a b) z1 z2 hk
  rw [divInt_add] at c
  refine ⟨?_, ?_⟩
  · rw [sem_eq P hP]
    simp [runF, plusFD, exec, ev, fr, ixD, at0, at1, binD, m1, m2, m3, hj, Fl.out, FD.out]
    rw [c]
    rfl
  · have := sz_divInt (by have := den_mul_pos a b; omega) z1 z2
    rw [divInt_add] at this
    exact this
theorem minus_ok {j jf : Nat} (hP : P[j]? = some (minusFD jf)) (hj : jf < j) (hf : MkQ P jf) {a b : Rat} {k l : Nat} (ha : Sz a k) (hb : Sz b l) (hk : k + l + 1 < 9000) : sem P j [fr a, fr b] = .ok (fr (a - b)) ∧ Sz (a - b) (k + l + 1) := by
  have m1 := mulOk_of ha.n hb.d' (by omega)
  have m2 := mulOk_of hb.n ha.d' (by omega)
  have m3 := mulOk_of ha.d' hb.d' (by omega)
  have z1 : (a.num * b.den - b.num * a.den).natAbs < 2 ^ (k + l + 1) := sub_sz (mul_sz ha.n hb.d') (by rw [Nat.add_comm k l]; exact mul_sz hb.n ha.d')
  have z2 : ((a.den : Int) * b.den).natAbs < 2 ^ (k + l + 1) := pow_le (mul_sz ha.d' hb.d') (by omega)
  have c := hf _ _ _ (den_mul_pos a b) z1 z2 hk
  rw [divInt_sub] at c
  refine ⟨?_, ?_⟩
  · rw [sem_eq P hP]
    simp [runF, minusFD, exec, ev, fr, ixD, at0, at1, binD, m1, m2, m3, hj, Fl.out, FD.out]
    rw [c]
    rfl
  · have := sz_divInt (by have := den_mul_pos a b; omega) z1 z2
    rw [divInt_sub] at this
    exact this
theorem times_ok {j jf : Nat} (hP : P[j]? = some (timesFD jf)) (hj : jf < j) (hf : MkQ P jf) {a b : Rat} {k l : Nat} (ha : Sz a k) (hb : Sz b l) (hk : k + l < 9000) : sem P j [fr a, fr b] = .ok (fr (a * b)) ∧ Sz (a * b) (k + l) := by
  have m1 := mulOk_of ha.n hb.n (by omega)
  have m3 := mulOk_of ha.d' hb.d' (by omega)
  have z1 : (a.num * b.num).natAbs < 2 ^ (k + l) := mul_sz ha.n hb.n
  have z2 : ((a.den : Int) * b.den).natAbs < 2 ^ (k + l) := mul_sz ha.d' hb.d'
  have c := hf _ _ _ (den_mul_pos a b) z1 z2 hk
  rw [divInt_mul] at c
  refine ⟨?_, ?_⟩
  · rw [sem_eq P hP]
    simp [runF, timesFD, exec, ev, fr, ixD, at0, at1, binD, m1, m3, hj, Fl.out, FD.out]
    rw [c]
    rfl
  · have := sz_divInt (by have := den_mul_pos a b; omega) z1 z2
    rw [divInt_mul] at this
    exact this
theorem below_ok {j : Nat} (hP : P[j]? = some belowFD) {a b : Rat} {k l : Nat} (ha : Sz a k) (hb : Sz b l) (hk : k + l < 1000000) : sem P j [fr a, fr b] = .ok (.bl (decide (a < b))) := by
  have m1 := mulOk_of ha.n hb.d' (by omega)
  have m2 := mulOk_of hb.n ha.d' (by omega)
  rw [sem_eq P hP]
  simp [runF, belowFD, exec, ev, fr, ixD, at0, at1, binD, m1, m2, Fl.out, FD.out, cmpD, cmpI, Rat.lt_iff]
theorem atmost_ok {j : Nat} (hP : P[j]? = some atmostFD) {a b : Rat} {k l : Nat} (ha : Sz a k) (hb : Sz b l) (hk : k + l < 1000000) : sem P j [fr a, fr b] = .ok (.bl (decide (a ≤ b))) := by
  have m1 := mulOk_of ha.n hb.d' (by omega)
  have m2 := mulOk_of hb.n ha.d' (by omega)
  rw [sem_eq P hP]
  simp [runF, atmostFD, exec, ev, fr, ixD, at0, at1, binD, m1, m2, Fl.out, FD.out, cmpD, cmpI, Rat.le_iff]
end
end Pv

/-! Pv, part U: loops and comprehensions over plain data; what every law draws its input with. -/
namespace Pv
open PySem PySem.Spec PyProof.Rows L2
/-! ### loops -/
theorem forL_go {α : Type} {f : D → Env → Fl} {enc : α → D} {I : List α → Env → Prop} {whole : List α} (st : ∀ (done : List α) (x : α) (rest : List α) (env : Env), whole = done ++ x :: rest → I done env → ∃ env', f (enc x) env = .nx env' ∧ I (done ++ [x]) env') :
    ∀ (xs done : List α) (env : Env), whole = done ++ xs → I done env → ∃ env', forL f (xs.map enc) env = .nx env' ∧ I whole env'
  | [], done, env, e, h => ⟨env, rfl, by rw [e, List.append_nil]; exact h⟩
  | x :: xs, done, env, e, h => by
    obtain ⟨e1, h1, h2⟩ := st done x xs env e h
    obtain ⟨e2, h3, h4⟩ := forL_go st xs (done ++ [x]) e1 (by rw [e, List.append_assoc]; rfl) h2
    refine ⟨e2, ?_, h4⟩
    rw [List.map_cons, forL, h1]
    exact h3
theorem forL_all {α : Type} {f : D → Env → Fl} {enc : α → D} (I : List α → Env → Prop) (xs : List α) (env : Env) (h : I [] env) (st : ∀ (done : List α) (x : α) (rest : List α) (env : Env), xs = done ++ x :: rest → I done env → ∃ env', f (enc x) env = .nx env' ∧ I (done ++ [x]) env') :
    ∃ env', forL f (xs.map enc) env = .nx env' ∧ I xs env' := forL_go st xs [] env rfl h
theorem forL_any {α : Type} {f : D → Env → Fl} {enc : α → D} {I : Env → Prop} {p : α → Bool} {r : D} : ∀ (xs : List α) (env : Env), I env → (∀ (x : α) (env : Env), x ∈ xs → I env → if p x then ∃ e, f (enc x) env = .rt r e else ∃ env', f (enc x) env = .nx env' ∧ I env') →
    if xs.any p then ∃ e, forL f (xs.map enc) env = .rt r e else ∃ env', forL f (xs.map enc) env = .nx env' ∧ I env'
  | [], env, h, _ => ⟨env, rfl, h⟩
  | x :: xs, env, h, st => by
    have s1 := st x env List.mem_cons_self h
    rw [List.any_cons]
    cases hp : p x with
    | true =>
      rw [hp] at s1
      simp only [if_true] at s1
      obtain ⟨e1, s1⟩ := s1
      rw [Bool.true_or, if_pos rfl, List.map_cons]
      exact ⟨e1, by rw [forL, s1]⟩
    | false =>
      rw [hp] at s1
      simp only [Bool.false_eq_true, if_false] at s1
      obtain ⟨e1, h1, h2⟩ := s1
      have := forL_any xs e1 h2 fun y e hy hi => st y e (List.mem_cons_of_mem _ hy) hi
      rw [Bool.false_or, List.map_cons, forL, h1]
      exact this
theorem mapO_all {α : Type} {f : D → Option (Option D)} {enc : α → D} {g : α → D} : ∀ (xs : List α), (∀ x ∈ xs, f (enc x) = some (some (g x))) → mapO f (xs.map enc) = some (xs.map g)
  | [], _ => rfl
  | x :: xs, h => by
    rw [List.map_cons, mapO, h x List.mem_cons_self]
    show (mapO f (xs.map enc)).map (g x :: ·) = _
    rw [mapO_all xs fun y hy => h y (List.mem_cons_of_mem _ hy)]
    rfl
/-! ### the script's cells -/
def digA : IS := (.seq (.app 4 (.bin .mod (.blt .int (.cons (.vr 3) .nil)) (.vr 1))) (.seq (.set 3 .fz (.bin .fdiv (.vr 3) (.vr 1))) .skip))
def digB : IS := (.seq (.set 3 .fz (.bin .mod (.blt .int (.cons (.bin .add (.bin .add (.bin .mul (.vr 3) (.ct (.int 48271))) (.bin .mul (.vr 5) (.ct (.int 69621)))) (.ct (.int 17))) .nil)) (.ct (.int 2147483647)))) (.seq (.set 3 .fz (.bin .mod (.blt .int (.cons (.bin .add (.bin .add (.bin .mul (.vr 3) (.ct (.int 16807))) (.bin .mul (.ct (.int 2)) (.vr 5))) (.ct (.int 5))) .nil)) (.ct (.int 2147483629)))) (.seq (.app 4 (.bin .mod (.blt .int (.cons (.bin .fdiv (.vr 3) (.ct (.int 64))) .nil)) (.vr 1))) .skip)))
def digitsFD : FD := ⟨3, 6, (.ol .fz), (.seq (.set 3 .fz (.blt .abs (.cons (.blt .int (.cons (.vr 0) .nil)) .nil))) (.seq (.set 4 (.ol .fz) (.ls .nil)) (.seq (.ite (.cmp .ge (.vr 3) (.bin .pow (.ct (.int 10)) (.ct (.int 18)))) (.seq (.for (.nm 5) (.it .rng (.cons (.vr 2) .nil)) digA) (.seq (.ret (.vr 4)) .skip)) .skip) (.seq (.for (.nm 5) (.it .rng (.cons (.vr 2) .nil)) digB) (.seq (.ret (.vr 4)) .skip))))), none⟩
def lowC : IE := .cmp .gt (.vr 3) (.ct (.int 0))
def lowB : IS := (.seq (.set 4 .fz (.bin .sub (.vr 2) (.bin .mul (.bin .fdiv (.vr 2) (.vr 3)) (.vr 3)))) (.seq (.set 2 .fz (.vr 3)) (.seq (.set 3 .fz (.vr 4)) .skip)))
def lowestFD : FD := ⟨2, 5, .fz, (.seq (.set 2 .fz (.blt .abs (.cons (.vr 0) .nil))) (.seq (.set 3 .fz (.vr 1)) (.seq (.whl lowC lowB) (.seq (.ret (.tp (.cons (.bin .fdiv (.vr 0) (.vr 2)) (.cons (.bin .fdiv (.vr 1) (.vr 2)) .nil)))) .skip)))), none⟩
def cellFD : FD := ⟨2, 2, .fz, (.seq (.ite (.cmp .lt (.vr 1) (.blt .len (.cons (.vr 0) .nil))) (.seq (.ret (.ix (.vr 0) (.vr 1))) .skip) .skip) (.seq (.ret (.ct (.int 0))) .skip)), none⟩
section
variable {P : List FD}
theorem cell_ok {j : Nat} (hP : P[j]? = some cellFD) (ns : List Int) (k : Nat) : sem P j [.scr ns, .int (k : Int)] = .ok (.int (ns.getD k 0)) := by
  rw [sem_eq P hP]
  by_cases h : k < ns.length
  · have e : atD (ns.map .int) (k : Int) = .ok (.int ns[k]) := by
      unfold atD ixn L2.ixN
      rw [if_pos (by omega), List.length_map, if_pos (by omega)]
      simp [h]
    simp [runF, cellFD, exec, ev, bltD, cmpD, cmpI, h, ixD, e, Fl.out, FD.out]
  · simp [runF, cellFD, exec, ev, bltD, cmpD, cmpI, h, Fl.out, FD.out]
theorem emod_bd (r b : Int) (h : 0 < b) : 0 ≤ r.fmod b ∧ r.fmod b < b := ⟨Int.fmod_nonneg_of_pos _ h, Int.fmod_lt_of_pos _ h⟩
theorem digits_ok {j : Nat} (hP : P[j]? = some digitsFD) (c : Int) {b : Int} {n : Nat} (hb : 0 < b) (hb2 : b ≤ 1000000) (hn : n ≤ 1000) :
    ∃ L : List Int, sem P j [.int c, .int b, .int (n : Int)] = .ok (.lst (L.map .int)) ∧ L.length = n ∧ ∀ x ∈ L, 0 ≤ x ∧ x < b := by
  have hd : divOk b = true := divOk_of (k := 30) (by omega) (by omega) (by decide)
  have hb0 : ¬ b = 0 := by omega
  have hp : (10 : Int) ^ (18 : Int).toNat = 1000000000000000000 := by decide
  have hr : rngOk (n : Int) = true := by unfold rngOk; simp; omega
  have e64 : divOk 64 = true := by decide
  have hpk : powOk 10 18 = true := by decide
  -- the first way
  have goA : ∀ (S : Sem1) (r0 : Int) (o0 : Option D), ∃ (L : List Int) (r1 : Int) (o1 : Option D), forL (fun d e => optF (bindT (.nm 5) d e) fun e' => exec S e' digA) ((List.range n).map fun k : Nat => D.int k) [some (.int c), some (.int b), some (.int (n : Int)), some (.int r0), some (.lst []), o0] =
      .nx [some (.int c), some (.int b), some (.int (n : Int)), some (.int r1), some (.lst (L.map .int)), o1] ∧ L.length = n ∧ ∀ x ∈ L, 0 ≤ x ∧ x < b := fun S r0 o0 => by
    obtain ⟨e1, h1, r1, L, o1, h2, h3, h4⟩ := forL_all (f := fun d e => optF (bindT (.nm 5) d e) fun e' => exec S e' digA) (enc := fun k : Nat => D.int k)
      (fun done env => ∃ (r : Int) (L : List Int) (o : Option D), env = [some (.int c), some (.int b), some (.int (n : Int)), some (.int r), some (.lst (L.map .int)), o] ∧ L.length = done.length ∧ ∀ x ∈ L, 0 ≤ x ∧ x < b)
      (List.range n) _ ⟨r0, [], o0, rfl, rfl, by simp⟩ (by
        rintro done k rest env e ⟨r, L, o, rfl, hl, hx⟩
        have hlen : L.length < lim := by
          have := congrArg List.length e
          simp at this
          unfold lim; omega
        refine ⟨_, ?_, r.fdiv b, L ++ [r.fmod b], some (.int (k : Int)), rfl, by simp [hl], fun x hx' => ?_⟩
        · simp [bindT, optF, digA, exec, ev, bltD, binD, hb0, hd, hlen]
        · rcases List.mem_append.mp hx' with h | h
          · exact hx x h
          · rw [List.mem_singleton] at h
            rw [h]
            exact emod_bd r b hb)
    exact ⟨L, r1, o1, by rw [← h2]; exact h1, by rw [h3]; simp, h4⟩
  have goB : ∀ (S : Sem1) (r0 : Int) (o0 : Option D), 0 ≤ r0 → r0 < 1000000000000000000 → ∃ (L : List Int) (r1 : Int) (o1 : Option D), forL (fun d e => optF (bindT (.nm 5) d e) fun e' => exec S e' digB) ((List.range n).map fun k : Nat => D.int k) [some (.int c), some (.int b), some (.int (n : Int)), some (.int r0), some (.lst []), o0] =
      .nx [some (.int c), some (.int b), some (.int (n : Int)), some (.int r1), some (.lst (L.map .int)), o1] ∧ L.length = n ∧ ∀ x ∈ L, 0 ≤ x ∧ x < b := fun S r0 o0 hr0 hr1 => by
    obtain ⟨e1, h1, r1, L, o1, h2, h3, h4, h5⟩ := forL_all (f := fun d e => optF (bindT (.nm 5) d e) fun e' => exec S e' digB) (enc := fun k : Nat => D.int k)
      (fun done env => ∃ (r : Int) (L : List Int) (o : Option D), env = [some (.int c), some (.int b), some (.int (n : Int)), some (.int r), some (.lst (L.map .int)), o] ∧ L.length = done.length ∧ (∀ x ∈ L, 0 ≤ x ∧ x < b) ∧ 0 ≤ r ∧ r < 1000000000000000000)
      (List.range n) _ ⟨r0, [], o0, rfl, rfl, by simp, hr0, hr1⟩ (by
        rintro done k rest env e ⟨r, L, o, rfl, hl, hx, g0, g1⟩
        have hlen : L.length < lim := by
          have := congrArg List.length e
          simp at this
          unfold lim; omega
        have hk : k < 1000 := by
          have : k ∈ List.range n := by rw [e]; simp
          have := List.mem_range.mp this
          omega
        have m1 : mulOk r 48271 = true := mulOk_of (k := 60) (l := 20) (by omega) (by decide) (by decide)
        have m2 : mulOk (k : Int) 69621 = true := mulOk_of (k := 60) (l := 20) (by omega) (by decide) (by decide)
        obtain ⟨a1, a2⟩ := emod_bd (r * 48271 + (k : Int) * 69621 + 17) 2147483647 (by decide)
        have m3 : mulOk ((r * 48271 + (k : Int) * 69621 + 17).fmod 2147483647) 16807 = true := mulOk_of (k := 60) (l := 20) (by omega) (by decide) (by decide)
        have m4 : mulOk 2 (k : Int) = true := mulOk_of (k := 60) (l := 20) (by decide) (by omega) (by decide)
        obtain ⟨a3, a4⟩ := emod_bd ((r * 48271 + (k : Int) * 69621 + 17).fmod 2147483647 * 16807 + 2 * (k : Int) + 5) 2147483629 (by decide)
        refine ⟨_, ?_, _, L ++ [(((r * 48271 + (k : Int) * 69621 + 17).fmod 2147483647 * 16807 + 2 * (k : Int) + 5).fmod 2147483629).fdiv 64 |>.fmod b], some (.int (k : Int)), rfl, by simp [hl], fun x hx' => ?_, a3, by omega⟩
        · simp [bindT, optF, digB, exec, ev, bltD, binD, hb0, e64, hlen, m1, m2, m3, m4]
        · rcases List.mem_append.mp hx' with h | h
          · exact hx x h
          · rw [List.mem_singleton] at h
            rw [h]
            exact emod_bd _ b hb)
    exact ⟨L, r1, o1, by rw [← h2]; exact h1, by rw [h3]; simp, h4⟩
  rw [sem_eq P hP]
  generalize (fun i => if i < j then sem P i else fun _ => R.bad) = S
  by_cases hbig : (1000000000000000000 : Int) ≤ (if c < 0 then -c else c)
  · obtain ⟨L, r1, o1, h1, h2, h3⟩ := goA S (if c < 0 then -c else c) none
    refine ⟨L, ?_, h2, h3⟩
    simp [runF, digitsFD, exec, ev, bltD, binD, cmpD, cmpI, hpk, hbig, itD, hr, mkL, lim, h1, Fl.out, FD.out]
  · obtain ⟨L, r1, o1, h1, h2, h3⟩ := goB S (if c < 0 then -c else c) none (by split <;> omega) (by omega)
    refine ⟨L, ?_, h2, h3⟩
    simp [runF, digitsFD, exec, ev, bltD, binD, cmpD, cmpI, hpk, hbig, itD, hr, mkL, lim, h1, Fl.out, FD.out]
theorem low_loop (S : Sem1) (n d : Int) {k : Nat} (hk : k < 9000) : ∀ (b a : Nat) (o : Option D), a < 2 ^ k → b < 2 ^ k → ∃ o', whL (fun e => ev S e lowC) (fun e => exec S e lowB) [some (.int n), some (.int d), some (.int (a : Int)), some (.int (b : Int)), o] =
    .nx [some (.int n), some (.int d), some (.int (Nat.gcd a b : Nat)), some (.int 0), o'] := by
  intro b
  induction b using Nat.strongRecOn with
  | ind b ih =>
    intro a o ha hb
    rw [whL_eq]
    by_cases h0 : b = 0
    · subst h0
      refine ⟨o, ?_⟩
      simp [lowC, ev, cmpD, cmpI]
    · have hb0 : ¬ (b : Int) = 0 := by omega
      have hp : (0 : Int) < (b : Int) := by omega
      have hdo : divOk (b : Int) = true := divOk_of (k := k) (by simpa using hb) hb0 hk
      have e1 : ((a : Int)).fdiv (b : Int) = ((a / b : Nat) : Int) := by rw [Int.fdiv_eq_ediv_of_nonneg _ (by omega)]; exact (Int.natCast_ediv a b).symm
      have hmo : mulOk ((a / b : Nat) : Int) (b : Int) = true := mulOk_of (k := k) (l := k) (Nat.lt_of_le_of_lt (Nat.div_le_self a b) ha) (by simpa using hb) (by omega)
      have e2 : (a : Int) - ((a / b : Nat) : Int) * (b : Int) = ((a % b : Nat) : Int) := by
        have := Nat.div_add_mod a b
        have h3 : ((b * (a / b) + a % b : Nat) : Int) = (a : Int) := by rw [this]
        rw [Int.natCast_add, Int.natCast_mul] at h3
        rw [Int.mul_comm]
        omega
      have lt : a % b < b := Nat.mod_lt _ (by omega)
      obtain ⟨o', h⟩ := ih (a % b) lt b (some (.int ((a % b : Nat) : Int))) hb (by omega)
      refine ⟨o', ?_⟩
      have hg : Nat.gcd b (a % b) = Nat.gcd a b := by rw [Nat.gcd_comm a b, Nat.gcd_rec b a, Nat.gcd_comm]
      rw [hg] at h
      have ec : ev S [some (.int n), some (.int d), some (.int (a : Int)), some (.int (b : Int)), o] lowC = .ok (.bl true) := by
        simp [lowC, ev, cmpD, cmpI]
        omega
      have eb : exec S [some (.int n), some (.int d), some (.int (a : Int)), some (.int (b : Int)), o] lowB = .nx [some (.int n), some (.int d), some (.int (b : Int)), some (.int ((a % b : Nat) : Int)), some (.int ((a % b : Nat) : Int))] := by
        simp [lowB, exec, ev, binD, hdo, e1, hmo, e2, -Int.natCast_ediv, -Int.natCast_emod]
      rw [ec, R.fl_ok]
      dsimp only
      rw [eb]
      exact h
theorem low_ok {j : Nat} (hP : P[j]? = some lowestFD) : MkQ P j := fun n d k hd hn hdk hk => by
  rw [sem_eq P hP]
  generalize (fun i => if i < j then sem P i else fun _ => R.bad) = S
  obtain ⟨o', h⟩ := low_loop S n d hk d.natAbs n.natAbs none hn hdk
  have ea : (if n < 0 then -n else n) = (n.natAbs : Int) := by split <;> omega
  have ed : ((d.natAbs : Nat) : Int) = d := by omega
  rw [ed] at h
  have g1 := gcd_sz (n := n) (d := d) (by omega) hdk
  have g0 := gcd_pos (n := n) (d := d) (by omega)
  have hdo : divOk ((Nat.gcd n.natAbs d.natAbs : Nat) : Int) = true := divOk_of (k := k) g1 (by have : 0 < Nat.gcd n.natAbs d.natAbs := g0; omega) hk
  have hs : ¬ d < 0 := by omega
  rw [fr_divInt (by omega), if_neg hs]
  have hi : Int.gcd n d = Nat.gcd n.natAbs d.natAbs := rfl
  rw [hi]
  simp [runF, lowestFD, exec, bltD, ev, ea, h, binD, hdo, mkT, lim, Fl.out, FD.out]
end
end Pv

/-! LotG: a falling, ever steeper chain of corners: plain geometry over the rationals. -/
namespace Pv.Lot
/-- n + 1 corners (X i, Y i); the k-th edge (1 ≤ k ≤ n) falls by s k -/
structure Chain (n : Nat) (X Y s : Nat → Rat) : Prop where
  hx : ∀ i, i < n → X i < X (i + 1)
  hs : ∀ k, 1 ≤ k → k ≤ n → 0 < s k
  st : ∀ k, 1 ≤ k → k + 1 ≤ n → s k < s (k + 1)
  hy : ∀ i, i < n → Y (i + 1) = Y i - s (i + 1) * (X (i + 1) - X i)
section
variable {n : Nat} {X Y s : Nat → Rat}
/-- the k-th edge's line -/
def lin (X Y s : Nat → Rat) (k : Nat) (x : Rat) : Rat := Y k - s k * (x - X k)
theorem Chain.st_le (c : Chain n X Y s) {k : Nat} (h1 : 1 ≤ k) : ∀ m, k ≤ m → m ≤ n → s k ≤ s m
  | 0, h, _ => by omega
  | m + 1, h, hm => by
    by_cases e : k = m + 1
    · rw [← e]; exact Rat.le_refl
    · have := Chain.st_le c h1 m (by omega) (by omega)
      have := c.st m (by omega) hm
      grind
theorem Chain.x_le (c : Chain n X Y s) {i : Nat} : ∀ m, i ≤ m → m ≤ n → X i ≤ X m
  | 0, h, _ => by have : i = 0 := by omega
                  rw [this]; exact Rat.le_refl
  | m + 1, h, hm => by
    by_cases e : i = m + 1
    · rw [e]; exact Rat.le_refl
    · have := Chain.x_le c (i := i) m (by omega) (by omega)
      have := c.hx m (by omega)
      grind
theorem mul_le {a b c : Rat} (h : a ≤ b) (hc : 0 ≤ c) : a * c ≤ b * c := Rat.mul_le_mul_of_nonneg_right h hc
/-- corners behind an edge lie below its line -/
theorem Chain.below_r (c : Chain n X Y s) {k : Nat} (h1 : 1 ≤ k) : ∀ i, k ≤ i → i ≤ n → Y i ≤ lin X Y s k (X i)
  | 0, h, _ => by omega
  | i + 1, h, hi => by
    by_cases e : k = i + 1
    · subst e
      unfold lin
      grind
    · have h2 := Chain.below_r c h1 i (by omega) (by omega)
      have h3 := c.hy i (by omega)
      have h4 := c.hx i (by omega)
      have h5 := mul_le (c.st_le h1 (i + 1) h hi) (show (0 : Rat) ≤ X (i + 1) - X i by grind)
      unfold lin at h2 ⊢
      grind
theorem Chain.lin_l (c : Chain n X Y s) {k : Nat} (h1 : 1 ≤ k) (hk : k ≤ n) : lin X Y s k (X (k - 1)) = Y (k - 1) := by
  have h3 := c.hy (k - 1) (by omega)
  rw [show k - 1 + 1 = k by omega] at h3
  unfold lin
  grind
/-- corners ahead of an edge lie below its line -/
theorem Chain.below_l (c : Chain n X Y s) {k : Nat} (h1 : 1 ≤ k) (hk : k ≤ n) : ∀ j, j ≤ k - 1 → Y (k - 1 - j) ≤ lin X Y s k (X (k - 1 - j))
  | 0, _ => by rw [Nat.sub_zero, c.lin_l h1 hk]; exact Rat.le_refl
  | j + 1, hj => by
    have h2 := Chain.below_l c h1 hk j (by omega)
    have h3 := c.hy (k - 1 - (j + 1)) (by omega)
    have h4 := c.hx (k - 1 - (j + 1)) (by omega)
    rw [show k - 1 - (j + 1) + 1 = k - 1 - j by omega] at h3 h4
    have h5 := mul_le (c.st_le (k := k - 1 - j) (by omega) k (by omega) hk) (show (0 : Rat) ≤ X (k - 1 - j) - X (k - 1 - (j + 1)) by grind)
    unfold lin at h2 ⊢
    grind
theorem Chain.below (c : Chain n X Y s) {k i : Nat} (h1 : 1 ≤ k) (hk : k ≤ n) (hi : i ≤ n) : Y i ≤ lin X Y s k (X i) := by
  by_cases h : k ≤ i
  · exact c.below_r h1 i h hi
  · have := c.below_l h1 hk (k - 1 - i) (by omega)
    rwa [show k - 1 - (k - 1 - i) = i by omega] at this
/-- over its edge a line is the least of all -/
theorem Chain.least (c : Chain n X Y s) {j k : Nat} (h1 : 1 ≤ j) (hj : j ≤ n) (k1 : 1 ≤ k) (hk : k ≤ n) {x : Rat} (hl : X (j - 1) ≤ x) (hr : x ≤ X j) : lin X Y s j x ≤ lin X Y s k x := by
  have e1 := c.below k1 hk (i := j - 1) (by omega)
  have e2 := c.below k1 hk (i := j) hj
  have e3 := c.lin_l h1 hj
  by_cases h : s j ≤ s k
  · -- the k-th falls faster: look at the right end
    have := mul_le h (show (0 : Rat) ≤ X j - x by grind)
    unfold lin at e1 e2 e3 ⊢
    grind
  · have h : s k ≤ s j := by grind
    have := mul_le h (show (0 : Rat) ≤ x - X (j - 1) by grind)
    unfold lin at e1 e2 e3 ⊢
    grind
/-! ### equal and weighted losses -/
/-- where the ray down from the most point meets the k-th line -/
def qv (n : Nat) (X Y s : Nat → Rat) (w : Rat) (k : Nat) : Rat := (s k * (X n - X k) + (Y 0 - Y k)) / (s k * w + (1 - w))
/-- the ray's end -/
structure Far (n : Nat) (X Y s : Nat → Rat) (w far : Rat) : Prop where
  no : n = 0 → far = 0
  ge : ∀ k, 1 ≤ k → k ≤ n → qv n X Y s w k ≤ far
  eq : 0 < n → ∃ m, 1 ≤ m ∧ m ≤ n ∧ far = qv n X Y s w m
theorem Chain.y_le (c : Chain n X Y s) {i : Nat} : ∀ m, i ≤ m → m ≤ n → Y m ≤ Y i
  | 0, h, _ => by have : i = 0 := by omega
                  rw [this]; exact Rat.le_refl
  | m + 1, h, hm => by
    by_cases e : i = m + 1
    · rw [e]; exact Rat.le_refl
    · have h1 := Chain.y_le c (i := i) m (by omega) (by omega)
      have h2 := c.hy m (by omega)
      have h3 := c.hx m (by omega)
      have h4 := Rat.mul_pos (c.hs (m + 1) (by omega) hm) (show (0 : Rat) < X (m + 1) - X m by grind)
      grind
theorem Chain.y_lt (c : Chain n X Y s) {i m : Nat} (h : i < m) (hm : m ≤ n) : Y m < Y i := by
  have h1 := c.y_le (i := i + 1) m (by omega) hm
  have h2 := c.hy i (by omega)
  have h3 := c.hx i (by omega)
  have h4 := Rat.mul_pos (c.hs (i + 1) (by omega) (by omega)) (show (0 : Rat) < X (i + 1) - X i by grind)
  grind
section
variable {w far : Rat}
theorem den_q (c : Chain n X Y s) (w0 : 0 < w) (w1 : w < 1) {k : Nat} (h1 : 1 ≤ k) (hk : k ≤ n) : 0 < s k * w + (1 - w) := by
  have := Rat.mul_pos (c.hs k h1 hk) w0
  grind
theorem q_pos (c : Chain n X Y s) (w0 : 0 < w) (w1 : w < 1) {k : Nat} (h1 : 1 ≤ k) (hk : k ≤ n) : 0 < qv n X Y s w k := by
  have d := den_q c w0 w1 h1 hk
  have a := c.y_lt (i := 0) (m := k) (by omega) hk
  have b := c.x_le (i := k) n hk (Nat.le_refl _)
  have e := mul_le b (Rat.le_of_lt (c.hs k h1 hk))
  unfold qv
  rw [Rat.div_def]
  refine Rat.mul_pos ?_ (Rat.inv_pos.mpr d)
  grind
theorem q_le (c : Chain n X Y s) (w0 : 0 < w) (w1 : w < 1) {k : Nat} (h1 : 1 ≤ k) (hk : k ≤ n) {t : Rat} (h : qv n X Y s w k ≤ t) : Y 0 - t * (1 - w) ≤ lin X Y s k (X n - t * w) := by
  have d := den_q c w0 w1 h1 hk
  have e := mul_le h (Rat.le_of_lt d)
  have e2 : qv n X Y s w k * (s k * w + (1 - w)) = s k * (X n - X k) + (Y 0 - Y k) := by
    unfold qv
    exact Rat.div_mul_cancel (by grind)
  rw [e2] at e
  unfold lin
  grind
theorem q_eq (c : Chain n X Y s) (w0 : 0 < w) (w1 : w < 1) {k : Nat} (h1 : 1 ≤ k) (hk : k ≤ n) {t : Rat} (h : t = qv n X Y s w k) : Y 0 - t * (1 - w) = lin X Y s k (X n - t * w) := by
  have d := den_q c w0 w1 h1 hk
  have e2 : qv n X Y s w k * (s k * w + (1 - w)) = s k * (X n - X k) + (Y 0 - Y k) := by
    unfold qv
    exact Rat.div_mul_cancel (by grind)
  rw [← h] at e2
  unfold lin
  grind
theorem Far.pos (f : Far n X Y s w far) (c : Chain n X Y s) (w0 : 0 < w) (w1 : w < 1) (hn : 0 < n) : 0 < far := by
  have a := q_pos c w0 w1 (k := 1) (Nat.le_refl _) hn
  have b := f.ge 1 (Nat.le_refl _) hn
  grind
/-- it lies behind the first corner -/
theorem Far.right (f : Far n X Y s w far) (c : Chain n X Y s) (w0 : 0 < w) (w1 : w < 1) (hn : 0 < n) : X 0 < X n - far * w ∧ X n - far * w < X n := by
  have p := f.pos c w0 w1 hn
  obtain ⟨m, h1, h2, e⟩ := f.eq hn
  have a := q_eq c w0 w1 h1 h2 e
  have b := c.below h1 h2 (i := 0) (Nat.zero_le _)
  have g1 := Rat.mul_pos p w0
  have g2 := Rat.mul_pos p (show (0 : Rat) < 1 - w by grind)
  refine ⟨?_, by grind⟩
  by_cases h : X 0 < X n - far * w
  · exact h
  · have h : X n - far * w ≤ X 0 := by grind
    have k := mul_le h (Rat.le_of_lt (c.hs m h1 h2))
    unfold lin at a b
    grind
/-- over the edge above which it lies, it lies on it -/
theorem Far.on (f : Far n X Y s w far) (c : Chain n X Y s) (w0 : 0 < w) (w1 : w < 1) {j : Nat} (h1 : 1 ≤ j) (hj : j ≤ n) (hl : X (j - 1) ≤ X n - far * w) (hr : X n - far * w ≤ X j) : Y 0 - far * (1 - w) = lin X Y s j (X n - far * w) := by
  obtain ⟨m, h3, h4, e⟩ := f.eq (by omega)
  have a := q_eq c w0 w1 h3 h4 e
  have b := q_le c w0 w1 h1 hj (f.ge j h1 hj)
  have d := c.least h1 hj h3 h4 hl hr
  grind
/-- with a greater weight the first number is no greater, the second no less -/
theorem Far.mono {w' far' : Rat} (f : Far n X Y s w far) (f' : Far n X Y s w' far') (c : Chain n X Y s) (w0 : 0 < w) (hw : w ≤ w') (w1 : w' < 1) : X n - far' * w' ≤ X n - far * w ∧ Y 0 - far * (1 - w) ≤ Y 0 - far' * (1 - w') := by
  by_cases hn : n = 0
  · rw [f.no hn, f'.no hn]
    grind
  · have hn : 0 < n := by omega
    have p := f.pos c w0 (by grind) hn
    have p' := f'.pos c (by grind) w1 hn
    obtain ⟨m, h1, h2, e⟩ := f.eq hn
    obtain ⟨m', h1', h2', e'⟩ := f'.eq hn
    have a := q_eq c w0 (by grind) h1 h2 e
    have b := q_le c (w := w') (by grind) w1 h1 h2 (f'.ge m h1 h2)
    have a' := q_eq c (w := w') (by grind) w1 h1' h2' e'
    have b' := q_le c w0 (by grind) h1' h2' (f.ge m' h1' h2')
    have key : X n - far' * w' ≤ X n - far * w := by
      by_cases h : X n - far' * w' ≤ X n - far * w
      · exact h
      · have h : 0 < (X n - far' * w') - (X n - far * w) := by grind
        have g := Rat.mul_pos (c.hs m h1 h2) h
        have l2 : far * (1 - w) < far' * (1 - w') := by
          unfold lin at a b
          grind
        have l1 : far' * w' < far * w := by grind
        have z1 := mul_le hw (Rat.le_of_lt p)
        have z2 := mul_le hw (Rat.le_of_lt p')
        exfalso
        by_cases hf : far' ≤ far
        · have := mul_le hf (show (0 : Rat) ≤ 1 - w' by grind)
          grind
        · have hf : far ≤ far' := by grind
          have := mul_le hf (show (0 : Rat) ≤ w by grind)
          grind
    refine ⟨key, ?_⟩
    have g := mul_le key (Rat.le_of_lt (c.hs m' h1' h2'))
    unfold lin at a' b'
    grind
end
end
end Pv.Lot

/-! PvZs: sizes of fractions as a class, so that simp finds them. -/
namespace Pv
open PySem PySem.Spec PyProof.Rows L2
class Zs (q : Rat) (k : outParam Nat) : Prop where
  o : Sz q k
theorem Sz.pos {q : Rat} {k : Nat} (h : Sz q k) : 1 ≤ k := by
  rcases Nat.eq_zero_or_pos k with e | e
  · subst e
    have := h.d
    have := q.den_nz
    omega
  · exact e
theorem sz0 {k : Nat} (h : 1 ≤ k) : Sz 0 k := ⟨Nat.pow_pos (by decide), Nat.one_lt_two_pow (by omega)⟩
theorem sz1 {k : Nat} (h : 1 ≤ k) : Sz 1 k := ⟨Nat.one_lt_two_pow (by omega), Nat.one_lt_two_pow (by omega)⟩
theorem sz_add {a b : Rat} {k l : Nat} (ha : Sz a k) (hb : Sz b l) : Sz (a + b) (k + l + 1) := by
  have z1 : (a.num * b.den + b.num * a.den).natAbs < 2 ^ (k + l + 1) := add_sz (mul_sz ha.n hb.d') (by rw [Nat.add_comm k l]; exact mul_sz hb.n ha.d')
  have z2 : ((a.den : Int) * b.den).natAbs < 2 ^ (k + l + 1) := pow_le (mul_sz ha.d' hb.d') (by omega)
  have := sz_divInt (by have := den_mul_pos a b; omega) z1 z2
  rw [divInt_add] at this
  exact this
theorem sz_neg {a : Rat} {k : Nat} (ha : Sz a k) : Sz (-a) k := ⟨by rw [Rat.neg_num, Int.natAbs_neg]; exact ha.n, by rw [Rat.neg_den]; exact ha.d⟩
theorem sz_sub {a b : Rat} {k l : Nat} (ha : Sz a k) (hb : Sz b l) : Sz (a - b) (k + l + 1) := by
  rw [Rat.sub_eq_add_neg]; exact sz_add ha (sz_neg hb)
theorem sz_mul {a b : Rat} {k l : Nat} (ha : Sz a k) (hb : Sz b l) : Sz (a * b) (k + l) := by
  have z1 : (a.num * b.num).natAbs < 2 ^ (k + l) := mul_sz ha.n hb.n
  have z2 : ((a.den : Int) * b.den).natAbs < 2 ^ (k + l) := mul_sz ha.d' hb.d'
  have := sz_divInt (by have := den_mul_pos a b; omega) z1 z2
  rw [divInt_mul] at this
  exact this
theorem divInt_inv (b : Rat) : Rat.divInt b.den b.num = b⁻¹ := (Rat.inv_def b).symm
theorem sz_inv {b : Rat} {k : Nat} (h : Sz b k) : Sz (b⁻¹) k := by
  by_cases h0 : b.num = 0
  · have : b = 0 := Rat.num_eq_zero.mp h0
    subst this
    rw [show (0 : Rat)⁻¹ = 0 by decide +kernel]
    exact sz0 h.pos
  · rw [← divInt_inv]
    exact sz_divInt h0 h.d' h.n
theorem sz_div {a b : Rat} {k l : Nat} (ha : Sz a k) (hb : Sz b l) : Sz (a / b) (k + l) := by
  rw [Rat.div_def]; exact sz_mul ha (sz_inv hb)
instance {a b : Rat} {k l : Nat} [A : Zs a k] [B : Zs b l] : Zs (a + b) (k + l + 1) := ⟨sz_add A.o B.o⟩
instance {a b : Rat} {k l : Nat} [A : Zs a k] [B : Zs b l] : Zs (a - b) (k + l + 1) := ⟨sz_sub A.o B.o⟩
instance {a b : Rat} {k l : Nat} [A : Zs a k] [B : Zs b l] : Zs (a * b) (k + l) := ⟨sz_mul A.o B.o⟩
instance {a b : Rat} {k l : Nat} [A : Zs a k] [B : Zs b l] : Zs (a / b) (k + l) := ⟨sz_div A.o B.o⟩
instance {a : Rat} {k : Nat} [A : Zs a k] : Zs (-a) k := ⟨sz_neg A.o⟩
instance : Zs (0 : Rat) 1 := ⟨sz0 (Nat.le_refl _)⟩
instance : Zs (1 : Rat) 1 := ⟨sz1 (Nat.le_refl _)⟩
instance : Zs (2 : Rat) 2 := ⟨⟨by decide +kernel, by decide +kernel⟩⟩
instance : Zs (3 : Rat) 2 := ⟨⟨by decide +kernel, by decide +kernel⟩⟩
instance {c : Prop} [Decidable c] {a b : Rat} {k l : Nat} [A : Zs a k] [B : Zs b l] : Zs (if c then a else b) (k + l) := ⟨by split; exact A.o.mono (by omega); exact B.o.mono (by omega)⟩
def mx (f q : Rat) : Rat := if f < q then q else f
def mn (f q : Rat) : Rat := if q < f then q else f
instance {a b : Rat} {k l : Nat} [A : Zs a k] [B : Zs b l] : Zs (mx a b) (k + l) := ⟨by unfold mx; split; exact B.o.mono (by omega); exact A.o.mono (by omega)⟩
instance {a b : Rat} {k l : Nat} [A : Zs a k] [B : Zs b l] : Zs (mn a b) (k + l) := ⟨by unfold mn; split; exact B.o.mono (by omega); exact A.o.mono (by omega)⟩
theorem zs_o (q : Rat) {k : Nat} [A : Zs q k] : Sz q k := A.o
theorem zs_of {q : Rat} {k : Nat} (h : Sz q k) : Zs q k := ⟨h⟩
theorem fr_inj {a b : Rat} (h : fr a = fr b) : a = b := by
  unfold fr at h
  injection h with h
  injection h with h1 h2
  injection h2 with h2 _
  injection h1 with h1
  injection h2 with h2
  exact Rat.ext h1 (by omega)
theorem eqv_fr (a b : Rat) : D.eqv (fr a) (fr b) = decide (a = b) := by
  show ((a.num == b.num) && ((((a.den : Int) == (b.den : Int))) && true)) = decide (a = b)
  rw [Bool.and_true]
  by_cases h : a = b
  · subst h; simp
  · rw [decide_eq_false h]
    apply Bool.eq_false_iff.mpr
    intro z
    rw [Bool.and_eq_true, beq_iff_eq, beq_iff_eq] at z
    exact h (Rat.ext z.1 (by omega))
theorem eqD_fr (a b : Rat) : eqD (fr a) (fr b) = .ok (.bl (decide (a = b))) := by
  unfold eqD
  have h1 : ∀ q : Rat, D.cmpOk (fr q) = true := fun q => rfl
  have h2 : ∀ q : Rat, D.dp (fr q) = 1 := fun q => rfl
  rw [h1, h1, h2, h2, eqv_fr]
  rfl
abbrev Pt : Type := Rat × Rat
def pt (p : Pt) : D := .tup [fr p.1, fr p.2]
theorem eqD_ptt (a b c d : Rat) : eqD (.tup [fr a, fr b]) (.tup [fr c, fr d]) = .ok (.bl (decide (a = c ∧ b = d))) := by
  unfold eqD
  have h1 : ∀ p q : Rat, D.cmpOk (.tup [fr p, fr q]) = true := fun p q => rfl
  have h2 : ∀ p q : Rat, D.dp (.tup [fr p, fr q]) = 2 := fun p q => rfl
  rw [h1, h1, h2, h2]
  show R.ok (.bl (D.eqv (fr a) (fr c) && (D.eqv (fr b) (fr d) && true))) = _
  rw [eqv_fr, eqv_fr, Bool.and_true]
  by_cases h : a = c <;> by_cases g : b = d <;> simp [h, g]
structure Sp (p : Pt) (k : Nat) : Prop where
  a : Sz p.1 k
  b : Sz p.2 k
def cor (cs : List Pt) (i : Nat) : Pt := cs.getD i (0, 0)
theorem cor_at {cs : List Pt} {i : Nat} (h : i < cs.length) : cs[i]? = some (cor cs i) := by
  unfold cor
  rw [List.getD_eq_getElem?_getD, List.getElem?_eq_getElem h]
  rfl
theorem cor_mem {cs : List Pt} {i : Nat} (h : i < cs.length) : cor cs i ∈ cs := List.mem_of_getElem? (cor_at h)
def AllSp (cs : List Pt) (k : Nat) : Prop := 1 ≤ k ∧ ∀ p ∈ cs, Sp p k
theorem AllSp.at_ {cs : List Pt} {k : Nat} (h : AllSp cs k) (i : Nat) : Sp (cor cs i) k := by
  by_cases hi : i < cs.length
  · exact h.2 _ (cor_mem hi)
  · unfold cor
    rw [List.getD_eq_getElem?_getD, List.getElem?_eq_none (by omega)]
    exact ⟨sz0 h.1, sz0 h.1⟩
theorem AllSp.i1 {cs : List Pt} {k : Nat} (h : AllSp cs k) (i : Nat) : Zs (cor cs i).1 k := ⟨(h.at_ i).a⟩
theorem AllSp.i2 {cs : List Pt} {k : Nat} (h : AllSp cs k) (i : Nat) : Zs (cor cs i).2 k := ⟨(h.at_ i).b⟩
theorem fr0 : fr 0 = .tup [.int 0, .int 1] := rfl
theorem fr1 : fr 1 = .tup [.int 1, .int 1] := rfl
theorem ih1 : ((1 : Rat) / 2).num = 1 := by decide +kernel
theorem ih2 : ((1 : Rat) / 2).den = 2 := by decide +kernel
theorem frH : fr (1 / 2) = .tup [.int 1, .int 2] := by unfold fr; rw [ih1, ih2]; rfl
/-! ### indices into lists -/
theorem atD0 (x : D) (xs : List D) : atD (x :: xs) 0 = .ok x := by
  unfold atD ixn L2.ixN
  rw [if_pos (by decide), if_pos (by simp only [List.length_cons]; omega)]
  rfl
theorem atD_nat {ds : List D} {i : Nat} {p : D} (h : ds[i]? = some p) : atD ds (i : Int) = .ok p := by
  have hl := (List.getElem?_eq_some_iff.mp h).1
  unfold atD ixn L2.ixN
  rw [if_pos (by omega), if_pos (by omega)]
  simp [h]
theorem atD1 (x y : D) (xs : List D) : atD (x :: y :: xs) 1 = .ok y := atD_nat (ds := x :: y :: xs) (i := 1) rfl
theorem atD2 (x y z : D) (xs : List D) : atD (x :: y :: z :: xs) 2 = .ok z := atD_nat (ds := x :: y :: z :: xs) (i := 2) rfl
theorem atD3 (x y z w : D) (xs : List D) : atD (x :: y :: z :: w :: xs) 3 = .ok w := atD_nat (ds := x :: y :: z :: w :: xs) (i := 3) rfl
/-- the last -/
theorem atD_last {ds : List D} {p : D} (h : ds.getLast? = some p) : atD ds (-1) = .ok p := by
  have hl : 0 < ds.length := by
    cases ds with
    | nil => cases h
    | cons _ _ => simp
  unfold atD ixn L2.ixN
  rw [if_neg (by omega), if_pos (by omega)]
  rw [List.getLast?_eq_getElem?] at h
  have e : (-1 + (ds.length : Int)).toNat = ds.length - 1 := by omega
  simp [e, h]
theorem atD_neg {ds : List D} {j : Nat} {p : D} (h1 : 1 ≤ j) (h2 : j ≤ ds.length) (h : ds[ds.length - j]? = some p) : atD ds (-(j : Int)) = .ok p := by
  unfold atD ixn L2.ixN
  rw [if_neg (by omega), if_pos (by omega)]
  have e : (-(j : Int) + (ds.length : Int)).toNat = ds.length - j := by omega
  simp [e, h]
theorem atD_cor {cs : List Pt} {i : Int} {n : Nat} (h : n < cs.length) (e : i = (n : Int)) : atD (cs.map pt) i = .ok (pt (cor cs n)) := by
  rw [e]
  exact atD_nat (by rw [List.getElem?_map, cor_at h]; rfl)
theorem atD_lcor {cs : List Pt} (h : 0 < cs.length) : atD (cs.map pt) (-1) = .ok (pt (cor cs (cs.length - 1))) := by
  apply atD_last
  rw [List.getLast?_eq_getElem?, List.length_map, List.getElem?_map, cor_at (by omega)]
  rfl
theorem atD_fcor {cs : List Pt} (h : 0 < cs.length) : atD (cs.map pt) 0 = .ok (pt (cor cs 0)) := atD_cor h rfl
/-- a lot of these corners -/
def lot (cs : List Pt) : D := .obj "Lot" ["frontier"] [.tup (cs.map pt)]
theorem mkT2 (a b : D) : mkT [a, b] = .ok (.tup [a, b]) := rfl
theorem mkT3 (a b c : D) : mkT [a, b, c] = .ok (.tup [a, b, c]) := rfl
theorem mkT4 (a b c d : D) : mkT [a, b, c, d] = .ok (.tup [a, b, c, d]) := rfl
theorem mkT1 (a : D) : mkT [a] = .ok (.tup [a]) := rfl
theorem mkT0 : mkT [] = .ok (.tup []) := rfl
theorem mkL2 (a b : D) : mkL [a, b] = .ok (.lst [a, b]) := rfl
theorem mkL3 (a b c : D) : mkL [a, b, c] = .ok (.lst [a, b, c]) := rfl
theorem mkL4 (a b c d : D) : mkL [a, b, c, d] = .ok (.lst [a, b, c, d]) := rfl
theorem mkL1 (a : D) : mkL [a] = .ok (.lst [a]) := rfl
theorem mkL0 : mkL [] = .ok (.lst []) := rfl
theorem eqD_ii (i j : Int) : eqD (.int i) (.int j) = .ok (.bl (decide (i = j))) := by rw [eqD_int]; by_cases h : i = j <;> simp [h]
theorem rng1 {n : Nat} (h : n < 100000) (h0 : 0 < n) : itD .rng [.int 1, .int (n : Int)] = .ok (.tup ((List.range (n - 1)).map fun k : Nat => .int (1 + k))) := by
  have r1 : rngOk 1 = true := rfl
  have r2 : rngOk (n : Int) = true := by unfold rngOk; simp; omega
  have e1 : ((n : Int) - 1).toNat = n - 1 := by omega
  simp only [itD, r1, r2, e1, Bool.and_true, if_true]
theorem rng0 {n : Nat} (h : n < 100000) : itD .rng [.int (n : Int)] = .ok (.tup ((List.range n).map fun k : Nat => .int k)) := by
  have r2 : rngOk (n : Int) = true := by unfold rngOk; simp; omega
  simp only [itD, r2, if_true, Int.toNat_natCast]
theorem sem_eqN (P : List FD) {j : Nat} {F : FD} (h : P[j]? = some F) (as : List D) : sem P j as = runF (semN P j) F as := by
  show (if j = j then (match P[j]? with | some F => runF (semN P j) F as | none => .bad) else _) = _
  rw [if_pos rfl, h]
/-! ### quotients of either sign -/
def overFD (jfrac : Nat) : FD := ⟨2, 2, .fz, (.seq (.ite (.cmp .eq (.ix (.vr 1) (.ct (.int 0))) (.ct (.int 0))) (.seq (.x (.rse "BadNumber") (.cons (.ct (.str "division by zero")) .nil)) .skip) .skip) (.seq (.ret (.call jfrac (.cons (.bin .mul (.ix (.vr 0) (.ct (.int 0))) (.ix (.vr 1) (.ct (.int 1)))) (.cons (.bin .mul (.ix (.vr 0) (.ct (.int 1))) (.ix (.vr 1) (.ct (.int 0)))) .nil)))) .skip)), none⟩
def loverFD (jLlowest : Nat) : FD := ⟨2, 2, .fz, (.seq (.ite (.cmp .lt (.ix (.vr 1) (.ct (.int 0))) (.ct (.int 0))) (.seq (.ret (.call jLlowest (.cons (.bin .mul (.neg (.ix (.vr 0) (.ct (.int 0)))) (.ix (.vr 1) (.ct (.int 1)))) (.cons (.bin .mul (.neg (.ix (.vr 0) (.ct (.int 1)))) (.ix (.vr 1) (.ct (.int 0)))) .nil)))) .skip) .skip) (.seq (.ret (.call jLlowest (.cons (.bin .mul (.ix (.vr 0) (.ct (.int 0))) (.ix (.vr 1) (.ct (.int 1)))) (.cons (.bin .mul (.ix (.vr 0) (.ct (.int 1))) (.ix (.vr 1) (.ct (.int 0)))) .nil)))) .skip)), none⟩
theorem divInt_div (a b : Rat) : Rat.divInt (a.num * b.den) (a.den * b.num) = a / b := by
  rw [Rat.div_def, Rat.inv_def, ← Rat.divInt_mul_divInt, Rat.num_divInt_den]
theorem num_ne {b : Rat} (h : b ≠ 0) : b.num ≠ 0 := fun z => h (Rat.num_eq_zero.mp z)
section
variable {P : List FD}
theorem over_okn {j jf : Nat} (hP : P[j]? = some (overFD jf)) (hj : jf < j) (hf : P[jf]? = some fracFD) {a b : Rat} {k l : Nat} (ha : Sz a k) (hb : Sz b l) (h0 : b ≠ 0) (hk : k + l < 9000) : sem P j [fr a, fr b] = .ok (fr (a / b)) := by
  have hn := num_ne h0
  have m1 := mulOk_of ha.n hb.d' (by omega)
  have m3 := mulOk_of ha.d' hb.n (by omega)
  have z2 : ((a.den : Int) * b.num).natAbs < 2 ^ (k + l) := mul_sz ha.d' hb.n
  have dp : (a.den : Int) * b.num ≠ 0 := Int.mul_ne_zero (den_ne a) hn
  have c := frac_ok hf (n := a.num * b.den) dp z2 hk
  rw [divInt_div a] at c
  have hz : (b.num == 0) = false := by rw [beq_eq_false_iff_ne]; exact hn
  rw [sem_eq P hP]
  simp [runF, overFD, exec, ev, fr, ixD, at0, at1, binD, m1, m3, hj, Fl.out, FD.out, cmpD, eqD_int, hz]
  rw [c]
  rfl
theorem lover_okn {j jf : Nat} (hP : P[j]? = some (loverFD jf)) (hj : jf < j) (hf : MkQ P jf) {a b : Rat} {k l : Nat} (ha : Sz a k) (hb : Sz b l) (h0 : b ≠ 0) (hk : k + l < 9000) : sem P j [fr a, fr b] = .ok (fr (a / b)) := by
  have hn := num_ne h0
  by_cases hs : b.num < 0
  · have m1 : mulOk (-a.num) b.den = true := mulOk_of (by rw [Int.natAbs_neg]; exact ha.n) hb.d' (by omega)
    have m3 : mulOk (-(a.den : Int)) b.num = true := mulOk_of (by rw [Int.natAbs_neg]; exact ha.d') hb.n (by omega)
    have z1 : (-a.num * b.den).natAbs < 2 ^ (k + l) := mul_sz (by rw [Int.natAbs_neg]; exact ha.n) hb.d'
    have z2 : (-(a.den : Int) * b.num).natAbs < 2 ^ (k + l) := mul_sz (by rw [Int.natAbs_neg]; exact ha.d') hb.n
    have dp : (0 : Int) < -a.den * b.num := by
      rw [show -(a.den : Int) * b.num = a.den * (-b.num) by rw [Int.neg_mul, Int.mul_neg]]
      exact Int.mul_pos (den_pos a) (by omega)
    have c := hf _ _ _ dp z1 z2 hk
    have e : Rat.divInt (-a.num * b.den) (-a.den * b.num) = a / b := by
      rw [← divInt_div a b, Int.neg_mul, Int.neg_mul, Rat.neg_divInt_neg]
    rw [e] at c
    have hz : decide (b.num < 0) = true := decide_eq_true hs
    rw [sem_eq P hP]
    simp [runF, loverFD, exec, ev, fr, ixD, at0, at1, binD, m1, m3, hj, Fl.out, FD.out, cmpD, cmpI, hz]
    rw [c]
    rfl
  · have m1 := mulOk_of ha.n hb.d' (by omega)
    have m3 := mulOk_of ha.d' hb.n (by omega)
    have z1 : (a.num * b.den).natAbs < 2 ^ (k + l) := mul_sz ha.n hb.d'
    have z2 : ((a.den : Int) * b.num).natAbs < 2 ^ (k + l) := mul_sz ha.d' hb.n
    have dp : (0 : Int) < a.den * b.num := Int.mul_pos (den_pos a) (by omega)
    have c := hf _ _ _ dp z1 z2 hk
    rw [divInt_div a] at c
    have hz : decide (b.num < 0) = false := decide_eq_false (by omega)
    rw [sem_eq P hP]
    simp [runF, loverFD, exec, ev, fr, ixD, at0, at1, binD, m1, m3, hj, Fl.out, FD.out, cmpD, cmpI, hz]
    rw [c]
    rfl
end
theorem ixfr0 (q : Rat) : ixD (fr q) (.int 0) = .ok (.int q.num) := rfl
theorem ixfr1 (q : Rat) : ixD (fr q) (.int 1) = .ok (.int q.den) := rfl
theorem ixl (ds : List D) (i : Int) : ixD (.lst ds) (.int i) = atD ds i := rfl
theorem ixt (ds : List D) (i : Int) : ixD (.tup ds) (.int i) = atD ds i := rfl
theorem ixs (ns : List Int) (i : Int) : ixD (.scr ns) (.int i) = atD (ns.map .int) i := rfl
theorem badd (i j : Int) : binD .add (.int i) (.int j) = .ok (.int (i + j)) := rfl
theorem bsub (i j : Int) : binD .sub (.int i) (.int j) = .ok (.int (i - j)) := rfl
theorem bmul (i j : Int) : binD .mul (.int i) (.int j) = if mulOk i j then .ok (.int (i * j)) else .bad := rfl
theorem bfdiv (i j : Int) : binD .fdiv (.int i) (.int j) = if divOk j then .ok (.int (i.fdiv j)) else .bad := rfl
theorem bmod (i j : Int) : binD .mod (.int i) (.int j) = if j != 0 then .ok (.int (i.fmod j)) else .bad := rfl
theorem bpow (i j : Int) : binD .pow (.int i) (.int j) = if powOk i j then .ok (.int (i ^ j.toNat)) else .bad := rfl
theorem baddl (a b : List D) : binD .add (.lst a) (.lst b) = mkL (a ++ b) := rfl
theorem baddt (a b : List D) : binD .add (.tup a) (.tup b) = mkT (a ++ b) := rfl
end Pv

/-! PvCh: chains of corners as lists of points. -/
namespace Pv
open PySem PySem.Spec PyProof.Rows L2
structure Ch (cs : List Pt) : Prop where
  pos : 0 < cs.length
  hx : ∀ i, i + 1 < cs.length → (cor cs i).1 < (cor cs (i + 1)).1
  hy : ∀ i, i + 1 < cs.length → (cor cs (i + 1)).2 < (cor cs i).2
  st : ∀ i, i + 2 < cs.length → ((cor cs i).2 - (cor cs (i + 1)).2) * ((cor cs (i + 2)).1 - (cor cs (i + 1)).1) < ((cor cs (i + 1)).2 - (cor cs (i + 2)).2) * ((cor cs (i + 1)).1 - (cor cs i).1)
def cX (cs : List Pt) (i : Nat) : Rat := (cor cs i).1
def cY (cs : List Pt) (i : Nat) : Rat := (cor cs i).2
/-- the k-th edge's fall, k from 1 -/
def cS (cs : List Pt) (k : Nat) : Rat := (cY cs (k - 1) - cY cs k) / (cX cs k - cX cs (k - 1))
theorem div_lt {a b c d : Rat} (hb : 0 < b) (hd : 0 < d) (h : a * d < c * b) : a / b < c / d := by
  have h1 : a / b * b = a := Rat.div_mul_cancel (by grind)
  have h2 : c / d * d = c := Rat.div_mul_cancel (by grind)
  by_cases z : a / b < c / d
  · exact z
  · exfalso
    have z : c / d ≤ a / b := by grind
    have k := Rat.mul_le_mul_of_nonneg_right z (Rat.le_of_lt (Rat.mul_pos hb hd))
    have e1 : c / d * (b * d) = c * b := by rw [← h2]; grind
    have e2 : a / b * (b * d) = a * d := by rw [← h1]; grind
    grind
theorem div_pos {a b : Rat} (ha : 0 < a) (hb : 0 < b) : 0 < a / b := by
  rw [Rat.div_def]; exact Rat.mul_pos ha (Rat.inv_pos.mpr hb)
theorem Ch.chain {cs : List Pt} (c : Ch cs) : Lot.Chain (cs.length - 1) (cX cs) (cY cs) (cS cs) where
  hx := fun i h => c.hx i (by omega)
  hs := fun k h1 hk => by
    have a := c.hx (k - 1) (by omega)
    have b := c.hy (k - 1) (by omega)
    rw [show k - 1 + 1 = k by omega] at a b
    exact div_pos (by unfold cY; grind) (by unfold cX; grind)
  st := fun k h1 hk => by
    have a := c.hx (k - 1) (by omega)
    have a2 := c.hx k (by omega)
    have b := c.st (k - 1) (by omega)
    rw [show k - 1 + 1 = k by omega] at a b
    rw [show k - 1 + 2 = k + 1 by omega] at b
    unfold cS
    rw [show k + 1 - 1 = k by omega]
    refine div_lt (by unfold cX; grind) (by unfold cX; grind) ?_
    exact b
  hy := fun i h => by
    have a := c.hx i (by omega)
    have e : cS cs (i + 1) * (cX cs (i + 1) - cX cs i) = cY cs i - cY cs (i + 1) := Rat.div_mul_cancel (by unfold cX; grind)
    grind
/-- the k-th edge's (k from 0) quotient on the way down -/
def lq (cs : List Pt) (w : Rat) (k : Nat) : Rat :=
  (((cor cs k).2 - (cor cs (k + 1)).2) * ((cor cs (cs.length - 1)).1 - (cor cs k).1) + ((cor cs (k + 1)).1 - (cor cs k).1) * ((cor cs 0).2 - (cor cs k).2)) / (((cor cs k).2 - (cor cs (k + 1)).2) * w + ((cor cs (k + 1)).1 - (cor cs k).1) * (1 - w))
/-- the same from the edge's right end -/
def lq' (cs : List Pt) (w : Rat) (k : Nat) : Rat :=
  (((cor cs k).2 - (cor cs (k + 1)).2) * ((cor cs (cs.length - 1)).1 - (cor cs (k + 1)).1) + ((cor cs (k + 1)).1 - (cor cs k).1) * ((cor cs 0).2 - (cor cs (k + 1)).2)) / (((cor cs k).2 - (cor cs (k + 1)).2) * w + ((cor cs (k + 1)).1 - (cor cs k).1) * (1 - w))
theorem lq_eq (cs : List Pt) (w : Rat) (k : Nat) : lq' cs w k = lq cs w k := by
  unfold lq lq'
  congr 1
  grind
def lfar (cs : List Pt) (w : Rat) : Rat := (List.range (cs.length - 1)).foldl (fun f k => mx f (lq cs w k)) 0
/-- the point of the losses -/
def lossP (cs : List Pt) (w : Rat) : Pt := ((cor cs (cs.length - 1)).1 - lfar cs w * w, (cor cs 0).2 - lfar cs w * (1 - w))
theorem lq_den {cs : List Pt} (c : Ch cs) {w : Rat} (w0 : 0 < w) (w1 : w < 1) {k : Nat} (h : k + 1 < cs.length) : 0 < ((cor cs k).2 - (cor cs (k + 1)).2) * w + ((cor cs (k + 1)).1 - (cor cs k).1) * (1 - w) := by
  have a := c.hx k h
  have b := c.hy k h
  have e1 := Rat.mul_pos (show (0 : Rat) < (cor cs k).2 - (cor cs (k + 1)).2 by grind) w0
  have e2 := Rat.mul_pos (show (0 : Rat) < (cor cs (k + 1)).1 - (cor cs k).1 by grind) (show (0 : Rat) < 1 - w by grind)
  grind
theorem lq_qv {cs : List Pt} (c : Ch cs) {w : Rat} (w0 : 0 < w) (w1 : w < 1) {k : Nat} (h : k + 1 < cs.length) : lq cs w k = Lot.qv (cs.length - 1) (cX cs) (cY cs) (cS cs) w (k + 1) := by
  rw [← lq_eq]
  have hd := lq_den c w0 w1 h
  have a := c.hx k h
  have dxp : 0 < cX cs (k + 1) - cX cs k := by unfold cX; grind
  have e : cS cs (k + 1) * (cX cs (k + 1) - cX cs k) = cY cs k - cY cs (k + 1) := Rat.div_mul_cancel (by grind)
  have hs := c.chain.hs (k + 1) (by omega) (by omega)
  have hq : 0 < cS cs (k + 1) * w + (1 - w) := by
    have := Rat.mul_pos hs w0
    grind
  unfold lq' Lot.qv
  show ((cY cs k - cY cs (k + 1)) * (cX cs (cs.length - 1) - cX cs (k + 1)) + (cX cs (k + 1) - cX cs k) * (cY cs 0 - cY cs (k + 1))) / ((cY cs k - cY cs (k + 1)) * w + (cX cs (k + 1) - cX cs k) * (1 - w)) = _
  rw [← e]
  generalize cX cs (k + 1) - cX cs k = dx at dxp
  generalize cS cs (k + 1) = s at hq
  generalize cX cs (cs.length - 1) - cX cs (k + 1) = p
  generalize cY cs 0 - cY cs (k + 1) = q
  have e1 : s * dx * p + dx * q = (s * p + q) * dx := by grind
  have e2 : s * dx * w + dx * (1 - w) = (s * w + (1 - w)) * dx := by grind
  rw [e1, e2]
  have hne : (s * w + (1 - w)) * dx ≠ 0 := by
    have := Rat.mul_pos hq dxp
    grind
  have z1 : (s * p + q) * dx / ((s * w + (1 - w)) * dx) * ((s * w + (1 - w)) * dx) = (s * p + q) * dx := Rat.div_mul_cancel hne
  have z2 : (s * p + q) / (s * w + (1 - w)) * (s * w + (1 - w)) = s * p + q := Rat.div_mul_cancel (by grind)
  have z3 : ((s * p + q) * dx / ((s * w + (1 - w)) * dx) - (s * p + q) / (s * w + (1 - w))) * ((s * w + (1 - w)) * dx) = 0 := by grind
  rcases Rat.mul_eq_zero.mp z3 with h | h
  · grind
  · exact absurd h hne
theorem foldl_mx (g : Nat → Rat) : ∀ (ks : List Nat) (f : Rat), f ≤ ks.foldl (fun f k => mx f (g k)) f ∧ (∀ k ∈ ks, g k ≤ ks.foldl (fun f k => mx f (g k)) f) ∧ (ks.foldl (fun f k => mx f (g k)) f = f ∨ ∃ k ∈ ks, ks.foldl (fun f k => mx f (g k)) f = g k)
  | [], f => ⟨Rat.le_refl, by simp, .inl rfl⟩
  | k :: ks, f => by
    obtain ⟨a, b, d⟩ := foldl_mx g ks (mx f (g k))
    rw [List.foldl_cons]
    have m1 : f ≤ mx f (g k) ∧ g k ≤ mx f (g k) := by unfold mx; split <;> grind
    refine ⟨by grind, fun j hj => ?_, ?_⟩
    · rcases List.mem_cons.mp hj with rfl | hj
      · grind
      · exact b j hj
    · rcases d with d | ⟨j, hj, d⟩
      · rw [d]
        unfold mx
        split
        · exact .inr ⟨k, List.mem_cons_self, rfl⟩
        · exact .inl rfl
      · exact .inr ⟨j, List.mem_cons_of_mem _ hj, d⟩
theorem lfar_far {cs : List Pt} (c : Ch cs) {w : Rat} (w0 : 0 < w) (w1 : w < 1) : Lot.Far (cs.length - 1) (cX cs) (cY cs) (cS cs) w (lfar cs w) := by
  obtain ⟨a, b, d⟩ := foldl_mx (lq cs w) (List.range (cs.length - 1)) 0
  have hp := c.pos
  refine ⟨fun h => ?_, fun k h1 hk => ?_, fun h => ?_⟩
  · unfold lfar; rw [h]; rfl
  · have := b (k - 1) (List.mem_range.mpr (by omega))
    rw [lq_qv c w0 w1 (k := k - 1) (by omega), show k - 1 + 1 = k by omega] at this
    exact this
  · rcases d with d | ⟨k, hk, d⟩
    · exfalso
      have h1 := b 0 (List.mem_range.mpr h)
      rw [lq_qv c w0 w1 (k := 0) (by omega)] at h1
      have := Lot.q_pos c.chain w0 w1 (k := 1) (Nat.le_refl _) (by omega)
      rw [d] at h1
      grind
    · have := List.mem_range.mp hk
      exact ⟨k + 1, by omega, by omega, by unfold lfar; rw [d, lq_qv c w0 w1 (by omega)]⟩
theorem sz_mx {a b : Rat} {k : Nat} (ha : Sz a k) (hb : Sz b k) : Sz (mx a b) k := by unfold mx; split <;> assumption
theorem lq_sz {cs : List Pt} {w : Rat} {k m : Nat} (hs : AllSp cs k) (hw : Sz w m) (i : Nat) : Sz (lq cs w i) (12 * k + 2 * m + 11) := by
  haveI := fun i => hs.i1 i
  haveI := fun i => hs.i2 i
  haveI := zs_of hw
  have hk := hs.1
  unfold lq
  exact (zs_o _).mono (by omega)
theorem foldl_sz {g : Nat → Rat} {K : Nat} (hg : ∀ k, Sz (g k) K) : ∀ (ks : List Nat) (f : Rat), Sz f K → Sz (ks.foldl (fun f k => mx f (g k)) f) K
  | [], f, h => h
  | k :: ks, f, h => foldl_sz hg ks _ (sz_mx h (hg k))
theorem lfar_sz {cs : List Pt} {w : Rat} {k m : Nat} (hs : AllSp cs k) (hw : Sz w m) : Sz (lfar cs w) (12 * k + 2 * m + 11) := foldl_sz (fun i => lq_sz hs hw i) _ _ (sz0 (by omega))
theorem lossP_sz {cs : List Pt} {w : Rat} {k m : Nat} (hs : AllSp cs k) (hw : Sz w m) : Sp (lossP cs w) (13 * k + 3 * m + 14) := by
  haveI := fun i => hs.i1 i
  haveI := fun i => hs.i2 i
  haveI := zs_of hw
  haveI := zs_of (lfar_sz hs hw)
  exact ⟨(zs_o ((cor cs (cs.length - 1)).1 - lfar cs w * w)).mono (by omega), (zs_o ((cor cs 0).2 - lfar cs w * (1 - w))).mono (by omega)⟩
/-- the k-th edge (from 0), as the text has it -/
def edg (cs : List Pt) (k : Nat) : D := .tup [pt (cor cs k), pt (cor cs (k + 1)), pt ((cor cs k).2 - (cor cs (k + 1)).2, (cor cs (k + 1)).1 - (cor cs k).1)]
end Pv

/-! PvLp: loops that look for something; heights of chains. -/
namespace Pv
open PySem PySem.Spec PyProof.Rows L2
/-- the n-th statement of a row -/
def IS.nth : Nat → IS → IS
  | 0, .seq a _ => a
  | n + 1, .seq _ b => IS.nth n b
  | _, _ => .skip
theorem ex_step {S : Sem1} {e e' : Env} {a b : IS} {r : Fl} (h : exec S e a = .nx e') (k : exec S e' b = r) : exec S e (.seq a b) = r := by
  rw [exec, h]; exact k
theorem ex_ret {S : Sem1} {e e' : Env} {a b : IS} {d : D} (h : exec S e a = .rt d e') : exec S e (.seq a b) = .rt d e' := by
  rw [exec, h]; rfl
theorem ex_skip (S : Sem1) (e : Env) : exec S e .skip = .nx e := rfl
/-- a for that returns at the first item found -/
theorem forL_find {α : Type} {f : D → Env → Fl} {enc : α → D} {I : Env → Prop} {p : α → Bool} {r : α → D} : ∀ (xs : List α) (env : Env), I env → (∀ (x : α) (env : Env), x ∈ xs → I env → if p x then ∃ e, f (enc x) env = .rt (r x) e else ∃ env', f (enc x) env = .nx env' ∧ I env') →
    match xs.find? p with | some x => ∃ e, forL f (xs.map enc) env = .rt (r x) e | none => ∃ env', forL f (xs.map enc) env = .nx env' ∧ I env'
  | [], env, h, _ => ⟨env, rfl, h⟩
  | x :: xs, env, h, st => by
    have s1 := st x env List.mem_cons_self h
    rw [List.find?_cons]
    cases hp : p x with
    | true =>
      rw [hp] at s1
      simp only [if_true] at s1
      obtain ⟨e1, s1⟩ := s1
      exact ⟨e1, by rw [List.map_cons, forL, s1]⟩
    | false =>
      rw [hp] at s1
      simp only [Bool.false_eq_true, if_false] at s1
      obtain ⟨e1, h1, h2⟩ := s1
      have := forL_find xs e1 h2 fun y e hy hi => st y e (List.mem_cons_of_mem _ hy) hi
      rw [List.map_cons, forL, h1]
      exact this
/-- a while that counts up -/
theorem whL_up {c : Env → R} {f : Env → Fl} {v : Nat → Env} {p : Nat → Bool} {N : Nat} (hc : ∀ i, i ≤ N → c (v i) = .ok (.bl (p i))) (hf : ∀ i, i < N → p i = true → f (v i) = .nx (v (i + 1))) (hN : p N = false) :
    ∀ m s, s + m = N → ∃ i, s ≤ i ∧ i ≤ N ∧ whL c f (v s) = .nx (v i) ∧ p i = false ∧ ∀ j, s ≤ j → j < i → p j = true
  | 0, s, e => by
    have : s = N := by omega
    subst this
    refine ⟨s, Nat.le_refl _, Nat.le_refl _, ?_, hN, fun j h1 h2 => by omega⟩
    rw [whL_eq, hc s (Nat.le_refl _), hN]; rfl
  | m + 1, s, e => by
    cases hp : p s with
    | false =>
      refine ⟨s, Nat.le_refl _, by omega, ?_, hp, fun j h1 h2 => by omega⟩
      rw [whL_eq, hc s (by omega), hp]; rfl
    | true =>
      obtain ⟨i, h1, h2, h3, h4, h5⟩ := whL_up hc hf hN m (s + 1) (by omega)
      refine ⟨i, by omega, h2, ?_, h4, fun j g1 g2 => ?_⟩
      · rw [whL_eq, hc s (by omega), hp, R.fl_ok]
        dsimp only
        rw [hf s (by omega) hp]
        exact h3
      · by_cases z : j = s
        · rw [z]; exact hp
        · exact h5 j (by omega) g2
/-! ### heights -/
/-- the k-th edge (from 0) at x -/
def seg (cs : List Pt) (k : Nat) (x : Rat) : Rat := (cor cs k).2 + (x - (cor cs k).1) / ((cor cs (k + 1)).1 - (cor cs k).1) * ((cor cs (k + 1)).2 - (cor cs k).2)
def hgt (cs : List Pt) (x : Rat) : Rat :=
  if (cor cs 0).1 < x then (match (List.range (cs.length - 1)).find? fun k => decide (x ≤ (cor cs (k + 1)).1) with
    | some k => seg cs k x
    | none => (cor cs (cs.length - 1)).2)
  else (cor cs 0).2
theorem Ch.xlt {cs : List Pt} (c : Ch cs) {i j : Nat} (h : i < j) (hj : j < cs.length) : (cor cs i).1 < (cor cs j).1 := by
  have h1 := c.chain.x_le (i := i + 1) j (by omega) (by omega)
  have h2 := c.hx i (by omega)
  unfold cX at h1
  grind
theorem Ch.ylt {cs : List Pt} (c : Ch cs) {i j : Nat} (h : i < j) (hj : j < cs.length) : (cor cs j).2 < (cor cs i).2 := c.chain.y_lt h (by omega)
theorem Ch.xle {cs : List Pt} (c : Ch cs) {i j : Nat} (h : i ≤ j) (hj : j < cs.length) : (cor cs i).1 ≤ (cor cs j).1 := c.chain.x_le j h (by omega)
theorem Ch.yle {cs : List Pt} (c : Ch cs) {i j : Nat} (h : i ≤ j) (hj : j < cs.length) : (cor cs j).2 ≤ (cor cs i).2 := c.chain.y_le j h (by omega)
theorem find_first {p : Nat → Bool} {n k : Nat} (hk : k < n) (h : p k = true) (hl : ∀ j, j < k → p j = false) : (List.range n).find? p = some k := by
  rw [List.find?_range_eq_some]
  exact ⟨h, List.mem_range.mpr hk, fun j hj => by rw [hl j hj]; rfl⟩
theorem hgt_left {cs : List Pt} {x : Rat} (h : x ≤ (cor cs 0).1) : hgt cs x = (cor cs 0).2 := by
  unfold hgt
  rw [if_neg (by grind)]
theorem hgt_seg {cs : List Pt} (c : Ch cs) {k : Nat} (hk : k + 1 < cs.length) {x : Rat} (h1 : (cor cs k).1 < x) (h2 : x ≤ (cor cs (k + 1)).1) : hgt cs x = seg cs k x := by
  have a := c.xle (i := 0) (j := k) (by omega) (by omega)
  have e := find_first (p := fun k => decide (x ≤ (cor cs (k + 1)).1)) (n := cs.length - 1) (k := k) (by omega) (by simpa using h2) fun j hj => by
    have := c.xle (i := j + 1) (j := k) (by omega) (by omega)
    rw [decide_eq_false_iff_not]
    grind
  unfold hgt
  rw [if_pos (by grind), e]
theorem seg_lin {cs : List Pt} (c : Ch cs) {k : Nat} (hk : k + 1 < cs.length) (x : Rat) : seg cs k x = Lot.lin (cX cs) (cY cs) (cS cs) (k + 1) x := by
  have dx := c.hx k hk
  have h1 : (x - (cor cs k).1) / ((cor cs (k + 1)).1 - (cor cs k).1) * ((cor cs (k + 1)).1 - (cor cs k).1) = x - (cor cs k).1 := Rat.div_mul_cancel (by grind)
  have h2 : cS cs (k + 1) * ((cor cs (k + 1)).1 - (cor cs k).1) = (cor cs k).2 - (cor cs (k + 1)).2 := Rat.div_mul_cancel (by unfold cX; grind)
  unfold seg Lot.lin cX cY
  rw [show (cor cs (k + 1)).2 - (cor cs k).2 = -(cS cs (k + 1) * ((cor cs (k + 1)).1 - (cor cs k).1)) by grind]
  generalize (x - (cor cs k).1) / ((cor cs (k + 1)).1 - (cor cs k).1) = q at h1
  grind
/-- between the ends some edge lies over x -/
theorem edge_over {cs : List Pt} (c : Ch cs) {x : Rat} (h1 : (cor cs 0).1 < x) (h2 : x ≤ (cor cs (cs.length - 1)).1) : ∃ k, k + 1 < cs.length ∧ (cor cs k).1 < x ∧ x ≤ (cor cs (k + 1)).1 := by
  have go : ∀ m, m < cs.length → x ≤ (cor cs m).1 → ∃ k, k + 1 < cs.length ∧ (cor cs k).1 < x ∧ x ≤ (cor cs (k + 1)).1 := by
    intro m
    induction m with
    | zero => intro _ h; exfalso; grind
    | succ m ih =>
      intro hm h
      by_cases z : (cor cs m).1 < x
      · exact ⟨m, hm, z, h⟩
      · exact ih (by omega) (by grind)
  exact go _ (by have := c.pos; omega) h2
def inCh (cs : List Pt) (p : Pt) : Bool := !decide ((cor cs (cs.length - 1)).1 < p.1) && !decide (hgt cs p.1 < p.2)
def onR (cs : List Pt) (p : Pt) : Bool := inCh cs p && (decide (p.1 = (cor cs (cs.length - 1)).1) || decide (p.2 = hgt cs p.1))
theorem seg_sz {cs : List Pt} {k m : Nat} (hs : AllSp cs k) {x : Rat} (hx : Sz x m) (i : Nat) : Sz (seg cs i x) (m + 6 * k + 5) := by
  haveI := fun i => hs.i1 i
  haveI := fun i => hs.i2 i
  haveI := zs_of hx
  unfold seg
  exact (zs_o _).mono (by omega)
theorem hgt_sz {cs : List Pt} {k m : Nat} (hs : AllSp cs k) {x : Rat} (hx : Sz x m) : Sz (hgt cs x) (m + 6 * k + 5) := by
  unfold hgt
  split
  · split
    · exact seg_sz hs hx _
    · exact (hs.at_ _).b.mono (by omega)
  · exact (hs.at_ _).b.mono (by omega)
/-- where the losses' point lies -/
theorem lossP_rim {cs : List Pt} (c : Ch cs) {w : Rat} (w0 : 0 < w) (w1 : w < 1) : onR cs (lossP cs w) = true := by
  have F := lfar_far c w0 w1
  have hp := c.pos
  by_cases hn : cs.length = 1
  · have z := F.no (by omega)
    have e1 : lossP cs w = ((cor cs 0).1, (cor cs 0).2) := by
      unfold lossP
      rw [z, hn]
      exact Prod.ext (by show (cor cs 0).1 - 0 * w = _; grind) (by show (cor cs 0).2 - 0 * (1 - w) = _; grind)
    rw [e1]
    unfold onR inCh
    rw [hgt_left (by grind)]
    simp [hn]
  · have n0 : 0 < cs.length - 1 := by omega
    obtain ⟨a, b⟩ := F.right c.chain w0 w1 n0
    obtain ⟨k, hk, k1, k2⟩ := edge_over c (x := (lossP cs w).1) a (Rat.le_of_lt b)
    have e := F.on c.chain w0 w1 (j := k + 1) (by omega) (by omega) (Rat.le_of_lt k1) k2
    have e2 : (lossP cs w).2 = hgt cs (lossP cs w).1 := by
      rw [hgt_seg c hk k1 k2, seg_lin c hk]
      exact e
    unfold onR inCh
    rw [← e2]
    have b' : (lossP cs w).1 < (cor cs (cs.length - 1)).1 := b
    have : ¬ (cor cs (cs.length - 1)).1 < (lossP cs w).1 := by grind
    simp [this]
theorem lossP_mono {cs : List Pt} (c : Ch cs) {w w' : Rat} (w0 : 0 < w) (h : w ≤ w') (w1 : w' < 1) : (lossP cs w').1 ≤ (lossP cs w).1 ∧ (lossP cs w).2 ≤ (lossP cs w').2 :=
  (lfar_far c w0 (by grind)).mono (lfar_far c (by grind) w1) c.chain w0 h w1
theorem lfar_nonneg {cs : List Pt} {w : Rat} : 0 ≤ lfar cs w := (foldl_mx (lq cs w) (List.range (cs.length - 1)) 0).1
end Pv

/-! PvHull: the monotone stack finds the falling chain (plain geometry). -/
namespace Pv
open PySem PySem.Spec PyProof.Rows L2
def turnQ (a b c : Pt) : Rat := (b.1 - a.1) * (c.2 - a.2) - (b.2 - a.2) * (c.1 - a.1)
def lexle (a b : Pt) : Prop := a.1 < b.1 ∨ (a.1 = b.1 ∧ a.2 ≤ b.2)
theorem lexle.x {a b : Pt} (h : lexle a b) : a.1 ≤ b.1 := by rcases h with h | h <;> grind
theorem lexle.y {a b : Pt} (h : lexle a b) (e : b.1 ≤ a.1) : a.2 ≤ b.2 := by rcases h with h | h <;> grind
/-- the points that a chain bounds -/
structure InR (C : List Pt) (p : Pt) : Prop where
  x : p.1 ≤ (cor C (C.length - 1)).1
  y : p.2 ≤ (cor C 0).2
  e : ∀ k, k + 1 < C.length → ((cor C k).2 - (cor C (k + 1)).2) * p.1 + ((cor C (k + 1)).1 - (cor C k).1) * p.2 ≤ ((cor C k).2 - (cor C (k + 1)).2) * (cor C (k + 1)).1 + ((cor C (k + 1)).1 - (cor C k).1) * (cor C (k + 1)).2
theorem pt_ext {a b : Pt} (h1 : a.1 = b.1) (h2 : a.2 = b.2) : a = b := Prod.ext h1 h2
/-- the halfplane on the left of a corner: (a, b) with b > 0 -/
theorem Ch.left {C : List Pt} (c : Ch C) {i : Nat} (hi : i < C.length) : ∃ a b : Rat, 0 ≤ a ∧ 0 < b ∧ (∀ p, InR C p → a * p.1 + b * p.2 ≤ a * (cor C i).1 + b * (cor C i).2) ∧
    (∀ h : i + 1 < C.length, a * ((cor C (i + 1)).1 - (cor C i).1) < ((cor C i).2 - (cor C (i + 1)).2) * b) ∧ (0 < i → 0 < a) := by
  by_cases h0 : i = 0
  · subst h0
    refine ⟨0, 1, Rat.le_refl, by decide +kernel, fun p hp => ?_, fun h => ?_, fun h => absurd h (by omega)⟩
    · have := hp.y; grind
    · have := c.hy 0 h; grind
  · have h1 := c.hx (i - 1) (by omega)
    have h2 := c.hy (i - 1) (by omega)
    rw [show i - 1 + 1 = i by omega] at h1 h2
    refine ⟨(cor C (i - 1)).2 - (cor C i).2, (cor C i).1 - (cor C (i - 1)).1, by grind, by grind, fun p hp => ?_, fun h => ?_, fun _ => by grind⟩
    · have := hp.e (i - 1) (by omega)
      rw [show i - 1 + 1 = i by omega] at this
      exact this
    · have := c.st (i - 1) (by omega)
      rw [show i - 1 + 1 = i by omega, show i - 1 + 2 = i + 1 by omega] at this
      exact this
/-- no corner is popped but by or over an equal one -/
theorem Ch.keep {C : List Pt} (c : Ch C) {i : Nat} (hi : i < C.length) {s q : Pt} (hs : InR C s) (hq : InR C q) (l1 : lexle s (cor C i)) (l2 : lexle (cor C i) q) (ht : 0 ≤ turnQ s (cor C i) q) : s = cor C i ∨ q = cor C i := by
  obtain ⟨a1, b1, ha, hb, hP, hS, hA⟩ := c.left hi
  have p1 := hP s hs
  have p2 := hP q hq
  have x1 := l1.x
  have x2 := l2.x
  generalize hT : cor C i = t at *
  unfold turnQ at ht
  by_cases v1 : q.1 ≤ t.1
  · -- q lies over or under t
    have y2 := l2.y v1
    have e1 : q.1 = t.1 := by grind
    have : b1 * (q.2 - t.2) ≤ 0 := by rw [e1] at p2; grind
    have z : q.2 ≤ t.2 := by
      by_cases z : q.2 ≤ t.2
      · exact z
      · have := Rat.mul_pos hb (show (0 : Rat) < q.2 - t.2 by grind)
        grind
    exact .inr (pt_ext e1 (by grind))
  · have v1 : t.1 < q.1 := by grind
    have hin : i + 1 < C.length := by
      by_cases z : i + 1 < C.length
      · exact z
      · have := hq.x
        rw [show C.length - 1 = i by omega, hT] at this
        grind
    have e2 := hq.e i hin
    have sl := hS hin
    have dx := c.hx i hin
    have dy := c.hy i hin
    rw [hT] at e2 dx dy
    generalize cor C (i + 1) = n at e2 sl dx dy
    -- the edge behind t: (a2, b2)
    have e3 : (t.2 - n.2) * (q.1 - t.1) + (n.1 - t.1) * (q.2 - t.2) ≤ 0 := by grind
    have hb2 : 0 < n.1 - t.1 := by grind
    have ha2 : 0 < t.2 - n.2 := by grind
    have e1 : 0 ≤ a1 * (t.1 - s.1) + b1 * (t.2 - s.2) := by grind
    generalize hu1 : t.1 - s.1 = u1 at *
    generalize hu2 : t.2 - s.2 = u2 at *
    generalize hv1 : q.1 - t.1 = w1 at *
    generalize hv2 : q.2 - t.2 = w2 at *
    have hw1 : 0 < w1 := by grind
    have ht' : 0 ≤ u1 * w2 - u2 * w1 := by
      have z1 : q.2 - s.2 = u2 + w2 := by grind
      have z2 : q.1 - s.1 = u1 + w1 := by grind
      rw [z1, z2] at ht
      grind
    by_cases hz : u1 ≤ 0
    · have z1 : t.1 ≤ s.1 := by grind
      have y1 := l1.y z1
      have u20 : 0 ≤ u2 := by grind
      have e0 : u1 = 0 := by grind
      rw [e0] at ht'
      have z2 : u2 ≤ 0 := by
        by_cases z : u2 ≤ 0
        · exact z
        · have := Rat.mul_pos (show 0 < u2 by grind) hw1
          grind
      exact .inl (pt_ext (by grind) (by grind))
    · have hu : 0 < u1 := by grind
      exfalso
      generalize n.1 - t.1 = b2 at *
      generalize t.2 - n.2 = a2 at *
      -- b1 b2 (u1 w2 - u2 w1) < 0
      have k1 : b1 * u1 * (a2 * w1 + b2 * w2) ≤ 0 := by
        have := Rat.mul_le_mul_of_nonneg_left e3 (Rat.le_of_lt (Rat.mul_pos hb hu))
        rw [Rat.mul_zero] at this
        exact this
      have k2 : 0 ≤ b2 * w1 * (a1 * u1 + b1 * u2) := by
        have := Rat.mul_le_mul_of_nonneg_left e1 (Rat.le_of_lt (Rat.mul_pos hb2 hw1))
        rw [Rat.mul_zero] at this
        exact this
      have k3 : 0 < (a2 * b1 - a1 * b2) * (u1 * w1) := Rat.mul_pos (by grind) (Rat.mul_pos hu hw1)
      have k4 : 0 ≤ b1 * b2 * (u1 * w2 - u2 * w1) := by
        have := Rat.mul_le_mul_of_nonneg_left ht' (Rat.le_of_lt (Rat.mul_pos hb hb2))
        rw [Rat.mul_zero] at this
        exact this
      grind
/-- what is no worse than a corner is that corner -/
theorem Ch.dom {C : List Pt} (c : Ch C) {i : Nat} (hi : i < C.length) {p : Pt} (hp : InR C p) (h1 : (cor C i).1 ≤ p.1) (h2 : (cor C i).2 ≤ p.2) : p = cor C i := by
  obtain ⟨a1, b1, ha, hb, hP, hS, hA⟩ := c.left hi
  have p1 := hP p hp
  have m1 := Rat.mul_le_mul_of_nonneg_left h1 ha
  have e2 : p.2 ≤ (cor C i).2 := by
    by_cases z : p.2 ≤ (cor C i).2
    · exact z
    · have := Rat.mul_pos hb (show (0 : Rat) < p.2 - (cor C i).2 by grind)
      grind
  have e2' : p.2 = (cor C i).2 := by grind
  refine pt_ext ?_ e2'
  by_cases hin : i + 1 < C.length
  · have e := hp.e i hin
    have dx := c.hx i hin
    have dy := c.hy i hin
    by_cases z : p.1 ≤ (cor C i).1
    · grind
    · have := Rat.mul_pos (show (0 : Rat) < (cor C i).2 - (cor C (i + 1)).2 by grind) (show (0 : Rat) < p.1 - (cor C i).1 by grind)
      rw [e2'] at e
      grind
  · have := hp.x
    rw [show C.length - 1 = i by omega] at this
    grind
/-! ### the stack -/
def Conv : List Pt → Prop
  | a :: b :: c :: r => turnQ c b a < 0 ∧ Conv (b :: c :: r)
  | _ => True
theorem Conv.tail {a : Pt} {r : List Pt} (h : Conv (a :: r)) : Conv r := by
  match r, h with
  | [], _ => exact True.intro
  | [_], _ => exact True.intro
  | [_, _], h => exact True.intro
  | _ :: _ :: _ :: _, h => exact h.2
def popW (q : Pt) : List Pt → List Pt
  | a :: b :: r => if 0 ≤ turnQ b a q then popW q (b :: r) else a :: b :: r
  | l => l
def stk (qs : List Pt) : List Pt := qs.foldl (fun rs q => q :: popW q rs) []
structure StI (C done rs : List Pt) : Prop where
  sub : ∀ p ∈ rs, p ∈ done
  all : ∀ c ∈ C, c ∈ done → c ∈ rs
  cv : Conv rs
  so : rs.Pairwise fun a b => lexle b a
theorem popW_ok {C done : List Pt} (c : Ch C) {q : Pt} (hq : InR C q) (hd : ∀ p ∈ done, InR C p ∧ lexle p q) : ∀ {rs : List Pt}, (∀ p ∈ rs, p ∈ done) → Conv rs → rs.Pairwise (fun a b => lexle b a) →
    (∀ p ∈ popW q rs, p ∈ rs) ∧ Conv (q :: popW q rs) ∧ (popW q rs).Pairwise (fun a b => lexle b a) ∧ ∀ x ∈ C, x ∈ rs → x ∈ popW q rs ∨ x = q
  | [], _, _, _ => ⟨fun p h => h, True.intro, .nil, fun x _ h => .inl h⟩
  | [a], _, _, so => ⟨fun p h => h, True.intro, so, fun x _ h => .inl h⟩
  | a :: b :: r, sub, cv, so => by
    unfold popW
    by_cases h : 0 ≤ turnQ b a q
    · rw [if_pos h]
      obtain ⟨i1, i2, i3, i4⟩ := popW_ok c hq hd (rs := b :: r) (fun p hp => sub p (List.mem_cons_of_mem _ hp)) cv.tail (List.pairwise_cons.mp so).2
      refine ⟨fun p hp => List.mem_cons_of_mem _ (i1 p hp), i2, i3, fun x hx hm => ?_⟩
      rcases List.mem_cons.mp hm with rfl | hm
      · obtain ⟨i, hi⟩ := List.mem_iff_getElem?.mp hx
        have hil := (List.getElem?_eq_some_iff.mp hi).1
        have e : x = cor C i := by
          have := cor_at hil
          rw [hi] at this
          exact Option.some.inj this
        have hb := hd b (sub b (List.mem_cons_of_mem _ List.mem_cons_self))
        have ha := hd x (sub x List.mem_cons_self)
        have lab := (List.pairwise_cons.mp so).1 b List.mem_cons_self
        rw [e] at h lab ha
        rcases c.keep hil hb.1 hq lab ha.2 h with z | z
        · exact i4 x hx (by rw [e, ← z]; exact List.mem_cons_self)
        · exact .inr (by rw [e, z])
      · exact i4 x hx hm
    · rw [if_neg h]
      refine ⟨fun p hp => hp, ⟨by grind, cv⟩, so, fun x _ hm => .inl hm⟩
theorem stk_go {C : List Pt} (c : Ch C) : ∀ (qs done rs : List Pt), (∀ p ∈ done, InR C p) → (∀ p ∈ qs, InR C p) → (∀ p ∈ done, ∀ q ∈ qs, lexle p q) → qs.Pairwise lexle → StI C done rs →
    StI C (done ++ qs) (qs.foldl (fun rs q => q :: popW q rs) rs)
  | [], done, rs, _, _, _, _, h => by rw [List.append_nil]; exact h
  | q :: qs, done, rs, hd, hq, hl, so, h => by
    rw [List.foldl_cons]
    have hqi := hq q List.mem_cons_self
    obtain ⟨i1, i2, i3, i4⟩ := popW_ok c hqi (fun p hp => ⟨hd p hp, hl p hp q List.mem_cons_self⟩) h.sub h.cv h.so
    have := stk_go c qs (done ++ [q]) (q :: popW q rs) (fun p hp => ?_) (fun p hp => hq p (List.mem_cons_of_mem _ hp)) (fun p hp r hr => ?_) (List.pairwise_cons.mp so).2 ⟨fun p hp => ?_, fun x hx hm => ?_, i2, ?_⟩
    · rwa [List.append_assoc] at this
    · rcases List.mem_append.mp hp with hp | hp
      · exact hd p hp
      · rw [List.mem_singleton] at hp; rw [hp]; exact hqi
    · rcases List.mem_append.mp hp with hp | hp
      · exact hl p hp r (List.mem_cons_of_mem _ hr)
      · rw [List.mem_singleton] at hp; rw [hp]; exact (List.pairwise_cons.mp so).1 r hr
    · rcases List.mem_cons.mp hp with rfl | hp
      · simp
      · exact List.mem_append_left _ (h.sub p (i1 p hp))
    · rcases List.mem_append.mp hm with hm | hm
      · rcases i4 x hx (h.all x hx hm) with z | z
        · exact List.mem_cons_of_mem _ z
        · rw [z]; exact List.mem_cons_self
      · rw [List.mem_singleton] at hm; rw [hm]; exact List.mem_cons_self
    · exact List.pairwise_cons.mpr ⟨fun b hb => hl b (h.sub b (i1 b hb)) q List.mem_cons_self, i3⟩
/-- the last while -/
def dropF : List Pt → List Pt
  | a :: b :: r => if a.2 ≤ b.2 then dropF (b :: r) else a :: b :: r
  | l => l
def Conv2 : List Pt → Prop
  | a :: b :: c :: r => turnQ a b c < 0 ∧ Conv2 (b :: c :: r)
  | _ => True
def Lex2 : List Pt → Prop
  | a :: b :: r => lexle a b ∧ Lex2 (b :: r)
  | _ => True
theorem dropF_ok {C : List Pt} (c : Ch C) : ∀ {S : List Pt}, S ≠ [] → (∀ p ∈ S, InR C p) → Conv2 S → Lex2 S → dropF S ≠ [] ∧ (∀ p ∈ dropF S, p ∈ S) ∧ Conv2 (dropF S) ∧ Lex2 (dropF S) ∧ (∀ x ∈ C, x ∈ S → x ∈ dropF S) ∧ ∀ a b r, dropF S = a :: b :: r → b.2 < a.2
  | [], h, _, _, _ => absurd rfl h
  | [a], _, _, cv, lx => ⟨by simp [dropF], fun p h => h, cv, lx, fun x _ h => h, fun a b r e => by simp [dropF] at e⟩
  | a :: b :: r, _, hi, cv, lx => by
    have cv' : Conv2 (b :: r) := by
      match r, cv with
      | [], _ => exact True.intro
      | [_], _ => exact True.intro
      | _ :: _ :: _, cv => exact cv.2
    unfold dropF
    by_cases h : a.2 ≤ b.2
    · rw [if_pos h]
      obtain ⟨i0, i1, i2, i3, i4, i5⟩ := dropF_ok c (S := b :: r) (by simp) (fun p hp => hi p (List.mem_cons_of_mem _ hp)) cv' lx.2
      refine ⟨i0, fun p hp => List.mem_cons_of_mem _ (i1 p hp), i2, i3, fun x hx hm => ?_, i5⟩
      rcases List.mem_cons.mp hm with rfl | hm
      · obtain ⟨i, hi'⟩ := List.mem_iff_getElem?.mp hx
        have hil := (List.getElem?_eq_some_iff.mp hi').1
        have e : x = cor C i := by
          have := cor_at hil
          rw [hi'] at this
          exact Option.some.inj this
        have lx1 := lx.1.x
        rw [e] at h lx1
        have := c.dom hil (hi b (List.mem_cons_of_mem _ List.mem_cons_self)) lx1 h
        exact i4 x hx (by rw [e, ← this]; exact List.mem_cons_self)
      · exact i4 x hx hm
    · rw [if_neg h]
      exact ⟨by simp, fun p hp => hp, cv, lx, fun x _ hm => hm, fun a' b' r' e => by injection e with e1 e2; injection e2 with e2 e3; subst e1; subst e2; grind⟩
/-- a strictly convex row that falls at its beginning is a chain -/
theorem cor_cons (a : Pt) (r : List Pt) (i : Nat) : cor (a :: r) (i + 1) = cor r i := rfl
theorem cor_zero (a : Pt) (r : List Pt) : cor (a :: r) 0 = a := rfl
theorem ch_cons {a b : Pt} {r : List Pt} (c : Ch (b :: r)) (hx : a.1 < b.1) (hy : b.2 < a.2) (hs : ∀ d q, r = d :: q → turnQ a b d < 0) : Ch (a :: b :: r) where
  pos := by simp
  hx := fun i h => by
    cases i with
    | zero => exact hx
    | succ i => exact c.hx i (by simpa using h)
  hy := fun i h => by
    cases i with
    | zero => exact hy
    | succ i => exact c.hy i (by simpa using h)
  st := fun i h => by
    cases i with
    | zero =>
      match r, hs, h with
      | d :: q, hs, _ =>
        have := hs d q rfl
        unfold turnQ at this
        show (a.2 - b.2) * (d.1 - b.1) < (b.2 - d.2) * (b.1 - a.1)
        grind
      | [], _, h => simp at h
    | succ i => exact c.st i (by simp only [List.length_cons] at h ⊢; omega)
theorem ch_one (a : Pt) : Ch [a] := ⟨by simp, fun i h => by simp at h, fun i h => by simp at h, fun i h => by simp at h⟩
theorem ch_of : ∀ {S : List Pt}, S ≠ [] → Conv2 S → Lex2 S → (∀ a b r, S = a :: b :: r → b.2 < a.2) → Ch S
  | [], h, _, _, _ => absurd rfl h
  | [a], _, _, _, _ => ch_one a
  | a :: b :: r, _, cv, lx, hf => by
    have hy := hf a b r rfl
    have hx : a.1 < b.1 := by
      rcases lx.1 with h | h
      · exact h
      · grind
    refine ch_cons (ch_of (S := b :: r) (by simp) ?_ lx.2 fun a' b' r' e => ?_) hx hy fun d q e => ?_
    · match r, cv with
      | [], _ => exact True.intro
      | [_], _ => exact True.intro
      | _ :: _ :: _, cv => exact cv.2
    · injection e with e1 e2
      subst e1
      subst e2
      have t := cv.1
      have lx2 := lx.2.1.x
      unfold turnQ at t
      have : (b.1 - a.1) * (b'.2 - b.2) < 0 := by
        have := Rat.mul_le_mul_of_nonneg_right (Rat.le_of_lt hy) (show (0 : Rat) ≤ b'.1 - b.1 by grind)
        grind
      by_cases z : b'.2 < b.2
      · exact z
      · have := Rat.mul_le_mul_of_nonneg_left (show (0 : Rat) ≤ b'.2 - b.2 by grind) (Rat.le_of_lt (show (0 : Rat) < b.1 - a.1 by grind))
        grind
    · subst e
      exact cv.1
/-- a corner between two others lies above their line -/
theorem Ch.above {F : List Pt} (c : Ch F) {a j b : Nat} (h1 : a < j) (h2 : j < b) (hb : b < F.length) :
    ((cor F a).2 - (cor F b).2) * (cor F b).1 + ((cor F b).1 - (cor F a).1) * (cor F b).2 < ((cor F a).2 - (cor F b).2) * (cor F j).1 + ((cor F b).1 - (cor F a).1) * (cor F j).2 := by
  have k := c.chain
  have e1 := k.below (k := j) (i := a) (by omega) (by omega) (by omega)
  have e2 := k.below (k := j + 1) (i := b) (by omega) (by omega) (by omega)
  have e3 := k.lin_l (k := j + 1) (by omega) (by omega)
  have e4 := k.st j (by omega) (by omega)
  have x1 := c.xlt h1 (by omega)
  have x2 := c.xlt h2 hb
  rw [show j + 1 - 1 = j by omega] at e3
  unfold Lot.lin at e1 e2 e3
  unfold cX cY at *
  generalize cor F a = A at *
  generalize cor F b = B at *
  generalize cor F j = J at *
  generalize cS F j = s at *
  generalize cS F (j + 1) = s' at *
  have m1 : B.2 < J.2 - s * (B.1 - J.1) := by
    have := Rat.mul_lt_mul_of_pos_right e4 (show (0 : Rat) < B.1 - J.1 by grind)
    grind
  have m2 := Rat.mul_lt_mul_of_pos_right m1 (show (0 : Rat) < J.1 - A.1 by grind)
  have m3 := Rat.mul_le_mul_of_nonneg_right e1 (Rat.le_of_lt (show (0 : Rat) < B.1 - J.1 by grind))
  grind
theorem mem_cor {C : List Pt} {p : Pt} (h : p ∈ C) : ∃ i, i < C.length ∧ p = cor C i := by
  obtain ⟨i, hi⟩ := List.mem_iff_getElem?.mp h
  have hil := (List.getElem?_eq_some_iff.mp hi).1
  refine ⟨i, hil, ?_⟩
  have := cor_at hil
  rw [hi] at this
  exact Option.some.inj this
theorem Ch.pw {C : List Pt} (c : Ch C) : C.Pairwise fun a b => a.1 < b.1 := by
  rw [List.pairwise_iff_getElem]
  intro i j hi hj h
  have a1 : C[i] = cor C i := by have := cor_at hi; rw [List.getElem?_eq_getElem hi] at this; exact Option.some.inj this
  have a2 : C[j] = cor C j := by have := cor_at hj; rw [List.getElem?_eq_getElem hj] at this; exact Option.some.inj this
  rw [a1, a2]
  exact c.xlt h hj
theorem pw_eq : ∀ {A B : List Pt}, A.Pairwise (fun a b => a.1 < b.1) → B.Pairwise (fun a b => a.1 < b.1) → (∀ p, p ∈ A ↔ p ∈ B) → A = B
  | [], [], _, _, _ => rfl
  | [], b :: B, _, _, h => by have := (h b).mpr List.mem_cons_self; simp at this
  | a :: A, [], _, _, h => by have := (h a).mp List.mem_cons_self; simp at this
  | a :: A, b :: B, hA, hB, h => by
    rw [List.pairwise_cons] at hA hB
    have e : a = b := by
      rcases List.mem_cons.mp ((h a).mp List.mem_cons_self) with e | e
      · exact e
      · rcases List.mem_cons.mp ((h b).mpr List.mem_cons_self) with e' | e'
        · exact e'.symm
        · have := hA.1 b e'
          have := hB.1 a e
          grind
    subst e
    rw [pw_eq hA.2 hB.2 fun p => ?_]
    constructor
    · intro hp
      rcases List.mem_cons.mp ((h p).mp (List.mem_cons_of_mem _ hp)) with e | e
      · have := hA.1 p hp
        rw [e] at this
        grind
      · exact e
    · intro hp
      rcases List.mem_cons.mp ((h p).mpr (List.mem_cons_of_mem _ hp)) with e | e
      · have := hB.1 p hp
        rw [e] at this
        grind
      · exact e
/-- two chains: one's corners among the other's, all within the first's bounds -/
theorem ch_eq {C F : List Pt} (c : Ch C) (f : Ch F) (h1 : ∀ x ∈ C, x ∈ F) (h2 : ∀ p ∈ F, InR C p) : F = C := by
  refine pw_eq f.pw c.pw fun p => ⟨fun hp => ?_, fun hp => h1 p hp⟩
  obtain ⟨j, hj, rfl⟩ := mem_cor hp
  have hi := h2 _ hp
  have hc := c.pos
  obtain ⟨j0, hj0, e0⟩ := mem_cor (h1 _ (cor_mem hc))
  by_cases z0 : j < j0
  · have := f.ylt z0 hj0
    have := hi.y
    rw [e0] at this
    grind
  by_cases z1 : j = j0
  · rw [z1, ← e0]; exact cor_mem hc
  have xl : (cor C 0).1 < (cor F j).1 := by rw [e0]; exact f.xlt (by omega) hj
  obtain ⟨k, hk, k1, k2⟩ := edge_over c xl hi.x
  obtain ⟨a, ha, ea⟩ := mem_cor (h1 _ (cor_mem (show k < C.length by omega)))
  obtain ⟨b, hb, eb⟩ := mem_cor (h1 _ (cor_mem hk))
  have ha' : a < j := by
    by_cases z : a < j
    · exact z
    · have := f.xle (i := j) (j := a) (by omega) ha
      rw [ea] at k1
      grind
  by_cases hbj : b = j
  · rw [← hbj, ← eb]; exact cor_mem hk
  · have hb' : j < b := by
      by_cases z : j < b
      · exact z
      · have := f.xlt (i := b) (j := j) (by omega) hj
        rw [eb] at k2
        grind
    have := f.above ha' hb' hb
    have e := hi.e k hk
    rw [ea, eb] at e
    grind
theorem conv_rev : ∀ {rs : List Pt}, Conv rs → ∀ {acc : List Pt}, Conv2 acc → (∀ a b c r q, rs = a :: b :: r → acc = c :: q → turnQ b a c < 0) → (∀ a c d r q, rs = a :: r → acc = c :: d :: q → turnQ a c d < 0) → Conv2 (rs.reverse ++ acc)
  | [], _, acc, h, _, _ => by simpa using h
  | a :: rs, cv, acc, h, h1, h2 => by
    rw [List.reverse_cons, List.append_assoc]
    refine conv_rev cv.tail (acc := [a] ++ acc) ?_ ?_ ?_
    · match acc, h, h2 with
      | [], _, _ => exact True.intro
      | [_], _, _ => exact True.intro
      | c :: d :: q, h, h2 => exact ⟨h2 a c d rs q rfl rfl, h⟩
    · intro b c x r q e1 e2
      injection e2 with e2 e3
      subst e2
      subst e1
      exact cv.1
    · intro b c d r q e1 e2
      injection e2 with e2 e3
      subst e2
      subst e3
      subst e1
      exact h1 a b d r q rfl rfl
theorem lex_rev {rs : List Pt} (h : rs.Pairwise fun a b => lexle b a) : Lex2 rs.reverse := by
  have : rs.reverse.Pairwise lexle := List.pairwise_reverse.mpr h
  generalize rs.reverse = l at this
  clear h
  induction l with
  | nil => exact True.intro
  | cons a l ih =>
    rw [List.pairwise_cons] at this
    match l, ih, this with
    | [], _, _ => exact True.intro
    | b :: r, ih, t => exact ⟨t.1 b List.mem_cons_self, ih t.2⟩
/-- the whole -/
theorem hull_eq {C qs : List Pt} (c : Ch C) (hq : ∀ p ∈ qs, InR C p) (hC : ∀ x ∈ C, x ∈ qs) (so : qs.Pairwise lexle) : dropF (stk qs).reverse = C := by
  have st := stk_go c qs [] [] (by simp) hq (by simp) so ⟨by simp, by simp, True.intro, .nil⟩
  rw [List.nil_append] at st
  change StI C qs (stk qs) at st
  have hne : stk qs ≠ [] := by
    intro z
    have := st.all _ (cor_mem c.pos) (hC _ (cor_mem c.pos))
    rw [z] at this
    simp at this
  have cv2 : Conv2 (stk qs).reverse := by
    have := conv_rev st.cv (acc := []) True.intro (by simp) (by simp)
    simpa using this
  obtain ⟨i0, i1, i2, i3, i4, i5⟩ := dropF_ok c (S := (stk qs).reverse) (by simpa using hne) (fun p hp => hq p (st.sub p (List.mem_reverse.mp hp))) cv2 (lex_rev st.so)
  exact ch_eq c (ch_of i0 i2 i3 i5) (fun x hx => i4 x hx (List.mem_reverse.mpr (st.all x hx (hC x hx)))) fun p hp => hq p (st.sub p (List.mem_reverse.mp (i1 p hp)))
end Pv

/-! PvSp: spots: points over common denominators; sorting them. -/
namespace Pv
open PySem PySem.Spec PyProof.Rows L2
theorem mapO_lc {α : Type} {S : Sem1} {env : Env} {e : IE} {t : Tg} {enc g : α → D} {xs : List α} (h : ∀ x ∈ xs, ∃ env', bindT t (enc x) (wipeE env t.own) = some env' ∧ ev S env' e = .ok (g x)) :
    mapO (fun d => envO (bindT t d (wipeE env t.own)) fun env' => stepC (ev S env' e)) (xs.map enc) = some (xs.map g) :=
  mapO_all xs fun x hx => by
    obtain ⟨env', h1, h2⟩ := h x hx
    rw [h1]
    show stepC (ev S env' e) = _
    rw [h2]; rfl
/-! ### sorting triples -/
def spt (f g : Nat → Int) (k : Nat) : D := .tup [.int (f k), .int (g k), .int (k : Int)]
def leS (f g : Nat → Int) (i j : Nat) : Bool := leI [f i, g i, (i : Int)] [f j, g j, (j : Int)]
def insS (f g : Nat → Int) (i : Nat) : List Nat → List Nat
  | [] => [i]
  | j :: js => if leS f g i j then i :: j :: js else j :: insS f g i js
def srtS (f g : Nat → Int) (xs : List Nat) : List Nat := xs.foldr (insS f g) []
theorem insT_spt (f g : Nat → Int) (i : Nat) : ∀ js : List Nat, insT (spt f g i) (js.map (spt f g)) = (insS f g i js).map (spt f g)
  | [] => rfl
  | j :: js => by
    rw [List.map_cons, insT, insS]
    show (if leS f g i j then _ else _) = _
    split
    · rfl
    · rw [insT_spt f g i js]; rfl
theorem srtT_spt (f g : Nat → Int) : ∀ xs : List Nat, srtT (xs.map (spt f g)) = (srtS f g xs).map (spt f g)
  | [] => rfl
  | x :: xs => by
    have := srtT_spt f g xs
    unfold srtT srtS at *
    rw [List.map_cons, List.foldr_cons, List.foldr_cons, this, insT_spt]
theorem mem_insS (f g : Nat → Int) (i : Nat) : ∀ (js : List Nat) (k : Nat), k ∈ insS f g i js ↔ k = i ∨ k ∈ js
  | [], k => by simp [insS]
  | j :: js, k => by
    rw [insS]
    split
    · simp
    · rw [List.mem_cons, mem_insS f g i js, List.mem_cons]
      constructor
      · rintro (h | h | h) <;> simp [h]
      · rintro (h | h | h) <;> simp [h]
theorem mem_srtS (f g : Nat → Int) : ∀ (xs : List Nat) (k : Nat), k ∈ srtS f g xs ↔ k ∈ xs
  | [], k => by simp [srtS]
  | x :: xs, k => by
    have := mem_srtS f g xs k
    unfold srtS at *
    rw [List.foldr_cons, mem_insS, this, List.mem_cons]
theorem len_insS (f g : Nat → Int) (i : Nat) : ∀ js : List Nat, (insS f g i js).length = js.length + 1
  | [] => rfl
  | j :: js => by
    rw [insS]
    split
    · rfl
    · rw [List.length_cons, len_insS f g i js]; rfl
theorem len_srtS (f g : Nat → Int) : ∀ xs : List Nat, (srtS f g xs).length = xs.length
  | [] => rfl
  | x :: xs => by
    have := len_srtS f g xs
    unfold srtS at *
    rw [List.foldr_cons, len_insS, this]; rfl
def lxI (f g : Nat → Int) (i j : Nat) : Prop := f i < f j ∨ (f i = f j ∧ g i ≤ g j)
theorem leS_t {f g : Nat → Int} {i j : Nat} (h : leS f g i j = true) : lxI f g i j := by
  unfold leS at h
  simp only [leI, Bool.or_eq_true, Bool.and_eq_true, decide_eq_true_eq, beq_iff_eq] at h
  rcases h with h | ⟨h1, h2⟩
  · exact .inl h
  · exact .inr ⟨h1, by omega⟩
theorem leS_f {f g : Nat → Int} {i j : Nat} (h : leS f g i j = false) : lxI f g j i := by
  unfold leS at h
  simp only [leI, Bool.or_eq_false_iff, Bool.and_eq_false_imp, decide_eq_false_iff_not, beq_iff_eq] at h
  by_cases z : f j < f i
  · exact .inl z
  · exact .inr ⟨by omega, by have := (h.2 (by omega)).1; omega⟩
theorem lxI_trans {f g : Nat → Int} {i j k : Nat} (h1 : lxI f g i j) (h2 : lxI f g j k) : lxI f g i k := by
  unfold lxI at *
  omega
theorem pw_insS {f g : Nat → Int} (i : Nat) : ∀ {js : List Nat}, js.Pairwise (lxI f g) → (insS f g i js).Pairwise (lxI f g)
  | [], _ => by simp [insS]
  | j :: js, h => by
    rw [insS]
    split
    · rename_i hl
      have hl := leS_t hl
      refine List.pairwise_cons.mpr ⟨fun k hk => ?_, h⟩
      rcases List.mem_cons.mp hk with e | e
      · rw [e]; exact hl
      · exact lxI_trans hl ((List.pairwise_cons.mp h).1 k e)
    · rename_i hl
      have hl := leS_f (Bool.eq_false_iff.mpr hl)
      refine List.pairwise_cons.mpr ⟨fun k hk => ?_, pw_insS i (List.pairwise_cons.mp h).2⟩
      rcases (mem_insS f g i js k).mp hk with e | e
      · rw [e]; exact hl
      · exact (List.pairwise_cons.mp h).1 k e
theorem pw_srtS (f g : Nat → Int) : ∀ xs : List Nat, (srtS f g xs).Pairwise (lxI f g)
  | [] => by simp [srtS]
  | x :: xs => by
    have := pw_srtS f g xs
    unfold srtS at *
    rw [List.foldr_cons]
    exact pw_insS x this
theorem tupI_spt (f g : Nat → Int) : ∀ xs : List Nat, (xs.map (spt f g)).all (D.tupI 3) = true
  | [] => rfl
  | x :: xs => by rw [List.map_cons, List.all_cons, tupI_spt f g xs]; rfl
theorem srt_ok {S : Sem1} (f g : Nat → Int) {xs : List Nat} (h : xs.length < 64) : xopD S .srt [.lst (xs.map (spt f g))] = .ok (.lst ((srtS f g xs).map (spt f g))) := by
  have h1 : decide ((xs.map (spt f g)).length < 64) = true := by simpa using h
  simp only [xopD, h1, tupI_spt, Bool.and_self, if_true, srtT_spt]
/-! ### the stack over indices -/
def trI (f g : Nat → Int) (a b c : Nat) : Int := (f b - f a) * (g c - g a) - (g b - g a) * (f c - f a)
def popI (f g : Nat → Int) (q : Nat) : List Nat → List Nat
  | a :: b :: r => if 0 ≤ trI f g b a q then popI f g q (b :: r) else a :: b :: r
  | l => l
def stkI (f g : Nat → Int) (qs : List Nat) : List Nat := qs.foldl (fun rs q => q :: popI f g q rs) []
def drpI (g : Nat → Int) : List Nat → List Nat
  | a :: b :: r => if g a ≤ g b then drpI g (b :: r) else a :: b :: r
  | l => l
/-- f and g are the points' numbers over common denominators -/
structure Over (P : Nat → Pt) (f g : Nat → Int) (W H : Int) : Prop where
  w : 0 < W
  h : 0 < H
  x : ∀ k, (f k : Rat) = (P k).1 * W
  y : ∀ k, (g k : Rat) = (P k).2 * H
section
variable {P : Nat → Pt} {f g : Nat → Int} {W H : Int}
theorem Over.wq (o : Over P f g W H) : (0 : Rat) < W := by exact_mod_cast o.w
theorem Over.hq (o : Over P f g W H) : (0 : Rat) < H := by exact_mod_cast o.h
theorem Over.tr (o : Over P f g W H) (a b c : Nat) : ((trI f g a b c : Int) : Rat) = turnQ (P a) (P b) (P c) * (W * H) := by
  unfold trI turnQ
  rw [Rat.intCast_sub, Rat.intCast_mul, Rat.intCast_mul, Rat.intCast_sub, Rat.intCast_sub, Rat.intCast_sub, Rat.intCast_sub, o.x, o.x, o.x, o.y, o.y, o.y]
  grind
theorem mul_nonneg_iff {a b : Rat} (hb : 0 < b) : 0 ≤ a * b ↔ 0 ≤ a := by
  constructor
  · intro h
    by_cases z : 0 ≤ a
    · exact z
    · have := Rat.mul_lt_mul_of_pos_right (show a < 0 by grind) hb
      grind
  · intro h
    exact Rat.mul_nonneg h (Rat.le_of_lt hb)
theorem Over.tr0 (o : Over P f g W H) (a b c : Nat) : 0 ≤ trI f g a b c ↔ 0 ≤ turnQ (P a) (P b) (P c) := by
  rw [← mul_nonneg_iff (Rat.mul_pos o.wq o.hq), ← o.tr]
  exact Rat.intCast_nonneg.symm
theorem mul_le_iff {a b c : Rat} (hc : 0 < c) : a * c ≤ b * c ↔ a ≤ b := by
  constructor
  · intro h
    by_cases z : a ≤ b
    · exact z
    · have := Rat.mul_lt_mul_of_pos_right (show b < a by grind) hc
      grind
  · exact fun h => Rat.mul_le_mul_of_nonneg_right h (Rat.le_of_lt hc)
theorem Over.le (o : Over P f g W H) (a b : Nat) : g a ≤ g b ↔ (P a).2 ≤ (P b).2 := by
  rw [← mul_le_iff o.hq, ← o.y, ← o.y]
  exact Rat.intCast_le_intCast.symm
theorem Over.xle (o : Over P f g W H) (a b : Nat) : f a ≤ f b ↔ (P a).1 ≤ (P b).1 := by
  rw [← mul_le_iff o.wq, ← o.x, ← o.x]
  exact Rat.intCast_le_intCast.symm
theorem Over.pop (o : Over P f g W H) (q : Nat) : ∀ rs : List Nat, (popI f g q rs).map P = popW (P q) (rs.map P)
  | [] => rfl
  | [_] => rfl
  | a :: b :: r => by
    rw [popI, List.map_cons, List.map_cons, popW]
    by_cases h : 0 ≤ trI f g b a q
    · rw [if_pos h, if_pos ((o.tr0 b a q).mp h), o.pop q (b :: r)]; rfl
    · rw [if_neg h, if_neg (fun z => h ((o.tr0 b a q).mpr z))]; rfl
theorem Over.stk (o : Over P f g W H) (qs : List Nat) : (stkI f g qs).map P = Pv.stk (qs.map P) := by
  unfold stkI Pv.stk
  have : ∀ (qs rs : List Nat), (qs.foldl (fun rs q => q :: popI f g q rs) rs).map P = (qs.map P).foldl (fun rs q => q :: popW q rs) (rs.map P) := by
    intro qs
    induction qs with
    | nil => intro rs; rfl
    | cons q qs ih =>
      intro rs
      rw [List.foldl_cons, ih, List.map_cons, List.map_cons, List.foldl_cons, o.pop]
  exact this qs []
theorem Over.drop (o : Over P f g W H) : ∀ rs : List Nat, (drpI g rs).map P = dropF (rs.map P)
  | [] => rfl
  | [_] => rfl
  | a :: b :: r => by
    rw [drpI, List.map_cons, List.map_cons, dropF]
    by_cases h : g a ≤ g b
    · rw [if_pos h, if_pos ((o.le a b).mp h), o.drop (b :: r)]; rfl
    · rw [if_neg h, if_neg (fun z => h ((o.le a b).mpr z))]; rfl
theorem Over.lex (o : Over P f g W H) {a b : Nat} (h : lxI f g a b) : lexle (P a) (P b) := by
  rcases h with h | ⟨h1, h2⟩
  · refine .inl ?_
    have := o.xle b a
    grind
  · have h3 := (o.xle a b).mp (by omega)
    have h4 := (o.xle b a).mp (by omega)
    exact .inr ⟨by grind, (o.le a b).mp h2⟩
end
theorem popI_sub (f g : Nat → Int) (q : Nat) : ∀ rs : List Nat, (∀ k ∈ popI f g q rs, k ∈ rs) ∧ (popI f g q rs).length ≤ rs.length
  | [] => ⟨fun k h => h, Nat.le_refl _⟩
  | [_] => ⟨fun k h => h, Nat.le_refl _⟩
  | a :: b :: r => by
    rw [popI]
    split
    · obtain ⟨h1, h2⟩ := popI_sub f g q (b :: r)
      exact ⟨fun k h => List.mem_cons_of_mem _ (h1 k h), by simp at h2 ⊢; omega⟩
    · exact ⟨fun k h => h, Nat.le_refl _⟩
theorem drpI_sub (g : Nat → Int) : ∀ rs : List Nat, (∀ k ∈ drpI g rs, k ∈ rs) ∧ (drpI g rs).length ≤ rs.length
  | [] => ⟨fun k h => h, Nat.le_refl _⟩
  | [_] => ⟨fun k h => h, Nat.le_refl _⟩
  | a :: b :: r => by
    rw [drpI]
    split
    · obtain ⟨h1, h2⟩ := drpI_sub g (b :: r)
      exact ⟨fun k h => List.mem_cons_of_mem _ (h1 k h), by simp at h2 ⊢; omega⟩
    · exact ⟨fun k h => h, Nat.le_refl _⟩
theorem atD_e1 (ys : List D) (x : D) : atD (ys ++ [x]) (-1) = .ok x := atD_last (by simp)
theorem atD_e2 (ys : List D) (x y : D) : atD (ys ++ [x, y]) (-2) = .ok x := atD_neg (j := 2) (by omega) (by simp) (by simp)
theorem pop_ok {env : Env} {i : Nat} {ys : List D} {x : D} (h : env[i]? = some (some (.lst (ys ++ [x])))) : sopD env (.pop i) [] = .nx (env.set i (some (.lst ys))) := by
  simp only [sopD]
  rw [h]
  cases ys with
  | nil => rfl
  | cons y ys =>
    show Fl.nx (env.set i (some (.lst (y :: (ys ++ [x])).dropLast))) = _
    rw [show y :: (ys ++ [x]) = (y :: ys) ++ [x] from rfl, List.dropLast_concat]
/-! ### common denominators -/
/-- the first n points' numbers have these common multiples of denominators -/
structure CD (pts : List Pt) (Mx My : Nat) (L : Nat) : Prop where
  x0 : 0 < Mx
  y0 : 0 < My
  xl : Mx < 2 ^ L
  yl : My < 2 ^ L
  x : ∀ p ∈ pts, p.1.den ∣ Mx
  y : ∀ p ∈ pts, p.2.den ∣ My
def lcmX (pts : List Pt) : Nat := pts.foldl (fun w p => Nat.lcm w p.1.den) 1
def lcmY (pts : List Pt) : Nat := pts.foldl (fun w p => Nat.lcm w p.2.den) 1
theorem fold_lcm {α : Type} (d : α → Nat) {M : Nat} : ∀ (xs : List α) (w : Nat), w ∣ M → (∀ x ∈ xs, d x ∣ M) → (xs.foldl (fun w p => Nat.lcm w (d p)) w ∣ M) ∧ (w ∣ xs.foldl (fun w p => Nat.lcm w (d p)) w) ∧ ∀ x ∈ xs, d x ∣ xs.foldl (fun w p => Nat.lcm w (d p)) w
  | [], w, h, _ => ⟨h, Nat.dvd_refl _, by simp⟩
  | x :: xs, w, h, hx => by
    obtain ⟨a, b, c⟩ := fold_lcm d xs (Nat.lcm w (d x)) (Nat.lcm_dvd h (hx x List.mem_cons_self)) fun y hy => hx y (List.mem_cons_of_mem _ hy)
    rw [List.foldl_cons]
    refine ⟨a, Nat.dvd_trans (Nat.dvd_lcm_left _ _) b, fun y hy => ?_⟩
    rcases List.mem_cons.mp hy with e | e
    · rw [e]; exact Nat.dvd_trans (Nat.dvd_lcm_right _ _) b
    · exact c y e
theorem rat_scale (q : Rat) {W : Nat} (h : q.den ∣ W) : ((q.num * ((W / q.den : Nat) : Int) : Int) : Rat) = q * (W : Int) := by
  obtain ⟨c, hc⟩ := h
  have hd := q.den_pos
  have e1 : W / q.den = c := by rw [hc]; exact Nat.mul_div_cancel_left _ hd
  have e2 : q * ((q.den : Int) : Rat) = (q.num : Rat) := by
    have h1 := Rat.num_divInt_den q
    rw [Rat.divInt_eq_div] at h1
    have h2 : ((q.den : Int) : Rat) ≠ 0 := by
      have : (0 : Int) < q.den := by omega
      have := Rat.intCast_pos.mpr this
      grind
    have h3 : (q.num : Rat) / ((q.den : Int) : Rat) * ((q.den : Int) : Rat) = (q.num : Rat) := Rat.div_mul_cancel h2
    rw [h1] at h3
    exact h3
  rw [e1, Rat.intCast_mul, ← e2, hc, Int.natCast_mul, Rat.intCast_mul, Rat.mul_assoc]
def sX (pts : List Pt) (k : Nat) : Int := (cor pts k).1.num * ((lcmX pts / (cor pts k).1.den : Nat) : Int)
def sY (pts : List Pt) (k : Nat) : Int := (cor pts k).2.num * ((lcmY pts / (cor pts k).2.den : Nat) : Int)
theorem enu_map {pts : List Pt} : ∀ (xs : List Pt) (n : Nat), pts.drop n = xs → enuD n (xs.map pt) = ((List.range' n xs.length).map fun k : Nat => D.tup [.int (k : Int), pt (cor pts k)])
  | [], n, h => rfl
  | x :: xs, n, h => by
    have hn : n < pts.length := by
      by_cases z : n < pts.length
      · exact z
      · rw [List.drop_eq_nil_of_le (by omega)] at h; cases h
    have e := List.drop_eq_getElem_cons hn
    rw [h] at e
    injection e with e1 e2
    have e3 : x = cor pts n := by
      have := cor_at hn
      rw [List.getElem?_eq_getElem hn] at this
      rw [e1]
      exact Option.some.inj this
    rw [List.map_cons, enuD, enu_map xs (n + 1) e2.symm, List.length_cons, List.range'_succ, List.map_cons, ← e3]
theorem dvd_log {a b : Nat} (h : a ∣ b) (hb : 0 < b) {L : Nat} (hl : b < 2 ^ L) : a < 2 ^ L := Nat.lt_of_le_of_lt (Nat.le_of_dvd hb h) hl
theorem log_lt {n k m : Nat} (h : n < 2 ^ k) (hk : k < m) : n.log2 < m := Nat.lt_of_le_of_lt (log2_le h) hk
theorem cutL1 (x : D) (xs : List D) : cutL (x :: xs) (some 1) none = xs := by
  unfold cutL cutN
  rw [show HT.sIx (x :: xs).length 0 (some 1) = min 1 (x :: xs).length from HT.sIx_nat (x :: xs).length 0 1, HT.sIx_none]
  rw [show min 1 (x :: xs).length = 1 by rw [List.length_cons]; omega]
  exact List.take_of_length_le (by simp)
end Pv

/-! PvLw: what the laws draw: steps, chains of whole corners, worlds. -/
namespace Pv
open PySem PySem.Spec PyProof.Rows L2
theorem cutL_take (ds : List D) (n : Nat) : cutL ds none (some (n : Int)) = ds.take n := by
  unfold cutL cutN
  rw [show HT.sIx ds.length ds.length (some (n : Int)) = min n ds.length from HT.sIx_nat ds.length ds.length n, HT.sIx_none]
  rw [Nat.sub_zero, List.drop_zero]
  by_cases h : n ≤ ds.length
  · rw [Nat.min_eq_left h]
  · rw [Nat.min_eq_right (by omega), List.take_of_length_le (by omega), List.take_of_length_le (by omega)]
theorem cutL_drop (ds : List D) (n : Nat) : cutL ds (some (n : Int)) none = ds.drop n := by
  unfold cutL cutN
  rw [show HT.sIx ds.length 0 (some (n : Int)) = min n ds.length from HT.sIx_nat ds.length 0 n, HT.sIx_none]
  by_cases h : n ≤ ds.length
  · rw [Nat.min_eq_left h]
    exact List.take_of_length_le (by simp)
  · rw [Nat.min_eq_right (by omega), List.drop_of_length_le (by omega), List.drop_of_length_le (by omega)]
    simp
theorem atD_map {α : Type} {enc : α → D} {xs : List α} {i : Nat} {z : Int} (h : i < xs.length) (e : z = (i : Int)) : atD (xs.map enc) z = .ok (enc xs[i]) := by
  rw [e]
  exact atD_nat (by rw [List.getElem?_map, List.getElem?_eq_getElem h]; rfl)
/-- where a while that counts up stops -/
theorem take_while {α : Type} {q : α → Bool} : ∀ {xs : List α} {i : Nat}, i ≤ xs.length → (∀ j (h : j < xs.length), j < i → q xs[j] = true) → (∀ h : i < xs.length, q xs[i] = false) → xs.take i = xs.takeWhile q ∧ xs.drop i = xs.dropWhile q
  | [], i, _, _, _ => by simp
  | x :: xs, 0, _, _, h => by
    have := h (by simp)
    rw [List.takeWhile_cons, List.dropWhile_cons]
    simp only [List.getElem_cons_zero] at this
    simp [this]
  | x :: xs, i + 1, hl, h1, h2 => by
    have hx := h1 0 (by simp) (by omega)
    simp only [List.getElem_cons_zero] at hx
    obtain ⟨a, b⟩ := take_while (xs := xs) (i := i) (by simpa using hl) (fun j hj hji => by
      have := h1 (j + 1) (by simpa using hj) (by omega)
      simpa using this) (fun h => by
      have := h2 (by simpa using h)
      simpa using this)
    rw [List.takeWhile_cons, List.dropWhile_cons]
    simp [hx, a, b]
/-! ### ascending -/
def insR (x : Rat) (t : List Rat) : List Rat := t.takeWhile (fun y => !decide (x < y)) ++ x :: t.dropWhile (fun y => !decide (x < y))
def asc (xs : List Rat) : List Rat := xs.foldl (fun t x => insR x t) []
theorem insR_len (x : Rat) (t : List Rat) : (insR x t).length = t.length + 1 := by
  have := congrArg List.length (List.takeWhile_append_dropWhile (p := fun y => !decide (x < y)) (l := t))
  unfold insR
  rw [List.length_append] at this ⊢
  rw [List.length_cons]
  omega
theorem insR_mem (x : Rat) (t : List Rat) (y : Rat) : y ∈ insR x t ↔ y = x ∨ y ∈ t := by
  have := List.takeWhile_append_dropWhile (p := fun y => !decide (x < y)) (l := t)
  unfold insR
  conv => rhs; rw [← this]
  simp only [List.mem_append, List.mem_cons]
  constructor
  · rintro (h | h | h) <;> simp [h]
  · rintro (h | h | h) <;> simp [h]
theorem insR_pw (x : Rat) : ∀ {t : List Rat}, t.Pairwise (· ≤ ·) → (insR x t).Pairwise (· ≤ ·)
  | [], _ => by simp [insR]
  | a :: t, h => by
    rw [List.pairwise_cons] at h
    unfold insR
    rw [List.takeWhile_cons, List.dropWhile_cons]
    by_cases hx : x < a
    · simp only [hx, decide_true, Bool.not_true, Bool.false_eq_true, if_false, List.nil_append]
      refine List.pairwise_cons.mpr ⟨fun y hy => ?_, List.pairwise_cons.mpr h⟩
      rcases List.mem_cons.mp hy with e | e
      · grind
      · have := h.1 y e; grind
    · simp only [hx, decide_false, Bool.not_false, if_true, List.cons_append]
      refine List.pairwise_cons.mpr ⟨fun y hy => ?_, insR_pw x h.2⟩
      rcases (insR_mem x t y).mp hy with e | e
      · grind
      · exact h.1 y e
theorem asc_go : ∀ (xs t : List Rat), t.Pairwise (· ≤ ·) → (xs.foldl (fun t x => insR x t) t).Pairwise (· ≤ ·) ∧ (∀ y, y ∈ xs.foldl (fun t x => insR x t) t ↔ y ∈ xs ∨ y ∈ t) ∧ (xs.foldl (fun t x => insR x t) t).length = xs.length + t.length
  | [], t, h => ⟨h, by simp, by simp⟩
  | x :: xs, t, h => by
    obtain ⟨a, b, c⟩ := asc_go xs (insR x t) (insR_pw x h)
    rw [List.foldl_cons]
    refine ⟨a, fun y => ?_, by rw [c, insR_len]; simp; omega⟩
    rw [b y, insR_mem, List.mem_cons]
    constructor
    · rintro (h | h | h) <;> simp [h]
    · rintro ((h | h) | h) <;> simp [h]
theorem asc_ok (xs : List Rat) : (asc xs).Pairwise (· ≤ ·) ∧ (∀ y, y ∈ asc xs ↔ y ∈ xs) ∧ (asc xs).length = xs.length := by
  obtain ⟨a, b, c⟩ := asc_go xs [] (by simp)
  exact ⟨a, fun y => by rw [asc, b y]; simp, by rw [asc, c]; simp⟩
/-! ### steps -/
def ip (c : Int × Int) : D := .tup [.int c.1, .int c.2]
/-- the slopes rise -/
def rise (a b : Int × Int) : Prop := a.2 * b.1 < b.2 * a.1
structure StOk (st : List (Int × Int)) : Prop where
  b : ∀ s ∈ st, 1 ≤ s.1 ∧ s.1 ≤ 60 ∧ 1 ≤ s.2 ∧ s.2 ≤ 60
  pw : st.Pairwise rise
theorem rise_trans {a b c : Int × Int} (ha : 0 < a.1) (hb : 0 < b.1) (hc : 0 < c.1) (h1 : rise a b) (h2 : rise b c) : rise a c := by
  unfold rise at *
  have e1 : a.2 * b.1 * c.1 < b.2 * a.1 * c.1 := Int.mul_lt_mul_of_pos_right h1 hc
  have e2 : b.2 * c.1 * a.1 < c.2 * b.1 * a.1 := Int.mul_lt_mul_of_pos_right h2 ha
  have e3 : a.2 * c.1 * b.1 < c.2 * a.1 * b.1 := by grind
  exact Int.lt_of_mul_lt_mul_right e3 (by omega)
theorem StOk.ins {st : List (Int × Int)} (h : StOk st) {s : Int × Int} (hs : 1 ≤ s.1 ∧ s.1 ≤ 60 ∧ 1 ≤ s.2 ∧ s.2 ≤ 60) {i : Nat} (hl : ∀ j (hj : j < st.length), j < i → rise st[j] s) (hr : ∀ hi : i < st.length, rise s st[i]) : StOk (st.take i ++ s :: st.drop i) := by
  have hd := List.take_append_drop i st
  refine ⟨fun x hx => ?_, ?_⟩
  · rcases List.mem_append.mp hx with hx | hx
    · exact h.b x (List.mem_of_mem_take hx)
    · rcases List.mem_cons.mp hx with hx | hx
      · rw [hx]; exact hs
      · exact h.b x (List.mem_of_mem_drop hx)
  · have pw := h.pw
    rw [← hd, List.pairwise_append] at pw
    have after : ∀ x ∈ st.drop i, rise s x := fun x hx => by
      by_cases hi : i < st.length
      · have e := List.drop_eq_getElem_cons hi
        rw [e] at hx pw
        rcases List.mem_cons.mp hx with hx | hx
        · rw [hx]; exact hr hi
        · have h1 := (List.pairwise_cons.mp pw.2.1).1 x hx
          have b1 := h.b _ (List.getElem_mem hi)
          have b2 := h.b x (by exact List.mem_of_mem_drop hx)
          exact rise_trans (by omega) (by omega) (by omega) (hr hi) h1
      · rw [List.drop_eq_nil_of_le (by omega)] at hx
        simp at hx
    have before : ∀ x ∈ st.take i, rise x s := fun x hx => by
      obtain ⟨j, hj, e⟩ := List.mem_iff_getElem.mp hx
      have hj' := hj
      rw [List.length_take] at hj'
      rw [List.getElem_take] at e
      rw [← e]
      exact hl j (by omega) (by omega)
    rw [List.pairwise_append]
    refine ⟨pw.1, List.pairwise_cons.mpr ⟨after, pw.2.1⟩, fun x hx y hy => ?_⟩
    rcases List.mem_cons.mp hy with hy | hy
    · rw [hy]; exact before x hx
    · exact pw.2.2 x hx y hy
/-! ### chains of whole corners -/
def cumx (st : List (Int × Int)) (i : Nat) : Int := ((st.take i).map (·.1)).sum
def cumy (st : List (Int × Int)) (i : Nat) : Int := ((st.take i).map (·.2)).sum
theorem cum_succ {st : List (Int × Int)} {i : Nat} (h : i < st.length) : cumx st (i + 1) = cumx st i + st[i].1 ∧ cumy st (i + 1) = cumy st i + st[i].2 := by
  unfold cumx cumy
  rw [List.take_add_one, List.getElem?_eq_getElem h]
  simp only [Option.toList_some, List.map_append, List.map_cons, List.map_nil, List.sum_append, List.sum_cons, List.sum_nil]
  omega
theorem cum_zero (st : List (Int × Int)) : cumx st 0 = 0 ∧ cumy st 0 = 0 := by simp [cumx, cumy]
/-- the whole corners of steps, from x on, down to y -/
def icor (x y : Int) (st : List (Int × Int)) (i : Nat) : Int × Int := (x + cumx st i, y + cumy st st.length - cumy st i)
def ichain (x y : Int) (st : List (Int × Int)) : List (Int × Int) := (List.range (st.length + 1)).map (icor x y st)
theorem ichain_len (x y : Int) (st : List (Int × Int)) : (ichain x y st).length = st.length + 1 := by simp [ichain]
theorem ichain_at {x y : Int} {st : List (Int × Int)} {i : Nat} (h : i < (ichain x y st).length) : (ichain x y st)[i] = icor x y st i := by simp [ichain]
theorem StOk.cum {st : List (Int × Int)} (h : StOk st) : ∀ i, i ≤ st.length → 0 ≤ cumx st i ∧ cumx st i ≤ 60 * i ∧ 0 ≤ cumy st i ∧ cumy st i ≤ 60 * i
  | 0, _ => by have := cum_zero st; omega
  | i + 1, hi => by
    have a := h.cum i (by omega)
    have b := cum_succ (st := st) (i := i) (by omega)
    have c := h.b _ (List.getElem_mem (show i < st.length by omega))
    omega
theorem StOk.cumy_le {st : List (Int × Int)} (h : StOk st) {i : Nat} : ∀ j, i ≤ j → j ≤ st.length → cumy st i ≤ cumy st j
  | 0, h1, _ => by have : i = 0 := by omega
                   rw [this]; exact Int.le_refl _
  | j + 1, h1, hj => by
    by_cases e : i = j + 1
    · rw [e]; exact Int.le_refl _
    · have a := h.cumy_le (i := i) j (by omega) (by omega)
      have b := cum_succ (st := st) (i := j) (by omega)
      have c := h.b _ (List.getElem_mem (show j < st.length by omega))
      omega
/-! ### worlds -/
/-- what the law's world holds -/
structure Wd where
  lf : Rat
  lw : Rat
  u0 : Int
  u1 : Int
  u2 : Int
  u3 : Int
  x : Int
  y : Int
  st : List (Int × Int)
  bs : List D
structure WdOk (w : Wd) : Prop where
  lf : Sz w.lf 5
  lw : Sz w.lw 5
  u0 : 1 ≤ w.u0 ∧ w.u0 < 2 ^ 20
  u1 : 1 ≤ w.u1 ∧ w.u1 < 2 ^ 20
  u2 : 1 ≤ w.u2 ∧ w.u2 < 2 ^ 20
  u3 : 1 ≤ w.u3 ∧ w.u3 < 2 ^ 20
  x : 0 ≤ w.x ∧ w.x ≤ 5
  y : 0 ≤ w.y ∧ w.y ≤ 5
  st : StOk w.st
  len : w.st.length ≤ 21
  one : w.st = [] → 1 ≤ w.x ∧ 1 ≤ w.y
def wdD (w : Wd) : D := .tup [.tup [fr w.lf, fr w.lw], .lst [.int w.u0, .int w.u1, .int w.u2, .int w.u3], .lst ((ichain w.x w.y w.st).map ip), .lst w.bs]
/-- a point of the world's own gains, led over -/
def wAt (w : Wd) (p q : Rat) : Pt := (w.lf + p * ((w.u0 : Rat) / w.u1), w.lw + q * ((w.u2 : Rat) / w.u3))
def wCs (w : Wd) : List Pt := (ichain w.x w.y w.st).map fun c => wAt w c.1 c.2
theorem fr_int (i : Int) : fr (i : Rat) = .tup [.int i, .int 1] := rfl
theorem sz_int {i : Int} {k : Nat} (h : i.natAbs < 2 ^ k) (hk : 1 ≤ k) : Sz (i : Rat) k := ⟨h, Nat.one_lt_two_pow (by omega)⟩
theorem wCs_len (w : Wd) : (wCs w).length = w.st.length + 1 := by simp [wCs, ichain_len]
theorem wCs_at (w : Wd) {i : Nat} (h : i ≤ w.st.length) : cor (wCs w) i = wAt w (icor w.x w.y w.st i).1 (icor w.x w.y w.st i).2 := by
  unfold cor wCs
  rw [List.getD_eq_getElem?_getD, List.getElem?_map, List.getElem?_eq_getElem (by rw [ichain_len]; omega), ichain_at]
  rfl
section
variable {w : Wd} (o : WdOk w)
include o
theorem WdOk.r1 : 0 < (w.u0 : Rat) / w.u1 := div_pos (Rat.intCast_pos.mpr (by have := o.u0; omega)) (Rat.intCast_pos.mpr (by have := o.u1; omega))
theorem WdOk.r2 : 0 < (w.u2 : Rat) / w.u3 := div_pos (Rat.intCast_pos.mpr (by have := o.u2; omega)) (Rat.intCast_pos.mpr (by have := o.u3; omega))
theorem WdOk.ch : Ch (wCs w) where
  pos := by rw [wCs_len]; omega
  hx := fun i h => by
    rw [wCs_len] at h
    rw [wCs_at w (by omega), wCs_at w (by omega)]
    have c := o.st.b _ (List.getElem_mem (show i < w.st.length by omega))
    have e := (cum_succ (st := w.st) (i := i) (by omega)).1
    have e1 : (icor w.x w.y w.st i).1 < (icor w.x w.y w.st (i + 1)).1 := by simp only [icor]; omega
    have e2 := Rat.intCast_lt_intCast.mpr e1
    have := Rat.mul_lt_mul_of_pos_right e2 o.r1
    simp only [wAt]
    grind
  hy := fun i h => by
    rw [wCs_len] at h
    rw [wCs_at w (by omega), wCs_at w (by omega)]
    have c := o.st.b _ (List.getElem_mem (show i < w.st.length by omega))
    have e := (cum_succ (st := w.st) (i := i) (by omega)).2
    have e1 : (icor w.x w.y w.st (i + 1)).2 < (icor w.x w.y w.st i).2 := by simp only [icor]; omega
    have e2 := Rat.intCast_lt_intCast.mpr e1
    have := Rat.mul_lt_mul_of_pos_right e2 o.r2
    simp only [wAt]
    grind
  st := fun i h => by
    rw [wCs_len] at h
    rw [wCs_at w (i := i) (by omega), wCs_at w (i := i + 1) (by omega), wCs_at w (i := i + 2) (by omega)]
    have e1 := cum_succ (st := w.st) (i := i) (by omega)
    have e2 := cum_succ (st := w.st) (i := i + 1) (by omega)
    rw [show i + 1 + 1 = i + 2 from rfl] at e2
    have hr := List.pairwise_iff_getElem.mp o.st.pw i (i + 1) (by omega) (by omega) (by omega)
    unfold rise at hr
    generalize w.st[i] = s at *
    generalize w.st[i + 1] = t at *
    have d1 : ((icor w.x w.y w.st i).2 : Rat) - ((icor w.x w.y w.st (i + 1)).2 : Rat) = (s.2 : Rat) := by
      rw [← Rat.intCast_sub]; congr 1; simp only [icor]; omega
    have d2 : ((icor w.x w.y w.st (i + 1)).2 : Rat) - ((icor w.x w.y w.st (i + 2)).2 : Rat) = (t.2 : Rat) := by
      rw [← Rat.intCast_sub]; congr 1; simp only [icor]; omega
    have d3 : ((icor w.x w.y w.st (i + 2)).1 : Rat) - ((icor w.x w.y w.st (i + 1)).1 : Rat) = (t.1 : Rat) := by
      rw [← Rat.intCast_sub]; congr 1; simp only [icor]; omega
    have d4 : ((icor w.x w.y w.st (i + 1)).1 : Rat) - ((icor w.x w.y w.st i).1 : Rat) = (s.1 : Rat) := by
      rw [← Rat.intCast_sub]; congr 1; simp only [icor]; omega
    have h2 : (s.2 : Rat) * t.1 < (t.2 : Rat) * s.1 := by
      rw [← Rat.intCast_mul, ← Rat.intCast_mul]; exact Rat.intCast_lt_intCast.mpr hr
    simp only [wAt]
    have p := Rat.mul_lt_mul_of_pos_right h2 (Rat.mul_pos o.r2 o.r1)
    generalize (w.u0 : Rat) / w.u1 = r1 at *
    generalize (w.u2 : Rat) / w.u3 = r2 at *
    rw [← d1, ← d2, ← d3, ← d4] at p
    grind
theorem WdOk.bd {i : Nat} (h : i ≤ w.st.length) : (icor w.x w.y w.st i).1.natAbs < 2 ^ 12 ∧ (icor w.x w.y w.st i).2.natAbs < 2 ^ 12 := by
  have a := o.st.cum i h
  have b := o.st.cum w.st.length (Nat.le_refl _)
  have c := o.st.cumy_le (i := i) w.st.length h (Nat.le_refl _)
  have := o.x
  have := o.y
  have := o.len
  unfold icor
  simp only
  omega
theorem WdOk.ge {i : Nat} (h : i ≤ w.st.length) : w.x ≤ (icor w.x w.y w.st i).1 ∧ w.y ≤ (icor w.x w.y w.st i).2 := by
  have a := o.st.cum i h
  have c := o.st.cumy_le (i := i) w.st.length h (Nat.le_refl _)
  unfold icor
  simp only
  omega
theorem WdOk.zu : Zs (w.u0 : Rat) 20 ∧ Zs (w.u1 : Rat) 20 ∧ Zs (w.u2 : Rat) 20 ∧ Zs (w.u3 : Rat) 20 :=
  ⟨⟨sz_int (by have := o.u0; omega) (by omega)⟩, ⟨sz_int (by have := o.u1; omega) (by omega)⟩, ⟨sz_int (by have := o.u2; omega) (by omega)⟩, ⟨sz_int (by have := o.u3; omega) (by omega)⟩⟩
theorem WdOk.at_sz {p q : Rat} {k l : Nat} (hp : Sz p k) (hq : Sz q l) : Sp (wAt w p q) (46 + max k l) := by
  obtain ⟨a, b, c, d⟩ := o.zu
  haveI := zs_of hp
  haveI := zs_of hq
  haveI := zs_of o.lf
  haveI := zs_of o.lw
  exact ⟨(zs_o (w.lf + p * ((w.u0 : Rat) / w.u1))).mono (by omega), (zs_o (w.lw + q * ((w.u2 : Rat) / w.u3))).mono (by omega)⟩
theorem WdOk.sz : AllSp (wCs w) 60 := by
  refine ⟨by omega, fun p hp => ?_⟩
  obtain ⟨i, hi, rfl⟩ := mem_cor hp
  rw [wCs_len] at hi
  rw [wCs_at w (by omega)]
  have b := o.bd (i := i) (by omega)
  have s := o.at_sz (sz_int b.1 (by omega)) (sz_int b.2 (by omega))
  exact ⟨s.a.mono (by omega), s.b.mono (by omega)⟩
end
theorem den_dvd {n d : Int} (h : d ≠ 0) : (Rat.divInt n d).den ∣ d.natAbs := by
  rw [Rat.den_divInt, if_neg h]
  exact Nat.div_dvd_of_dvd (Nat.gcd_dvd_left _ _)
/-- a sum of a fraction and one over units, in whole numbers -/
theorem at_eq (l p : Rat) (u v : Int) (hv : v ≠ 0) : Rat.divInt (l.num * v * p.den + l.den * u * p.num) (l.den * v * p.den) = l + p * ((u : Rat) / v) := by
  have cst : ∀ q : Rat, q * ((q.den : Int) : Rat) = (q.num : Rat) := fun q => by
    have h1 := Rat.num_divInt_den q
    rw [Rat.divInt_eq_div] at h1
    have h2 : ((q.den : Int) : Rat) ≠ 0 := by
      have : (0 : Int) < q.den := den_pos q
      have := Rat.intCast_pos.mpr this
      grind
    have h3 : (q.num : Rat) / ((q.den : Int) : Rat) * ((q.den : Int) : Rat) = (q.num : Rat) := Rat.div_mul_cancel h2
    rw [h1] at h3
    exact h3
  have n1 : ((l.den : Int) : Rat) ≠ 0 := by have := Rat.intCast_pos.mpr (den_pos l); grind
  have n2 : ((p.den : Int) : Rat) ≠ 0 := by have := Rat.intCast_pos.mpr (den_pos p); grind
  have n3 : (v : Rat) ≠ 0 := fun z => hv (by exact_mod_cast z)
  rw [Rat.divInt_eq_div]
  simp only [Rat.intCast_add, Rat.intCast_mul]
  rw [← cst l, ← cst p]
  have e : (u : Rat) / v * v = u := Rat.div_mul_cancel n3
  generalize ((l.den : Int) : Rat) = a at *
  generalize ((p.den : Int) : Rat) = b at *
  generalize (u : Rat) / v = r at *
  rw [← e]
  have hne : a * (v : Rat) * b ≠ 0 := by
    intro z
    rcases Rat.mul_eq_zero.mp z with z | z
    · rcases Rat.mul_eq_zero.mp z with z | z
      · exact n1 z
      · exact n3 z
    · exact n2 z
  rw [show l * a * (v : Rat) * b + a * (r * v) * (p * b) = (l + p * r) * (a * v * b) by grind]
  exact Rat.mul_div_cancel hne
theorem WdOk.cd {w : Wd} (o : WdOk w) : CD (wCs w) (w.lf.den * w.u1.natAbs) (w.lw.den * w.u3.natAbs) 25 where
  x0 := Nat.mul_pos w.lf.den_pos (by have := o.u1; omega)
  y0 := Nat.mul_pos w.lw.den_pos (by have := o.u3; omega)
  xl := by rw [show (25 : Nat) = 5 + 20 from rfl, Nat.pow_add]; exact Nat.mul_lt_mul'' o.lf.d (by have := o.u1; omega)
  yl := by rw [show (25 : Nat) = 5 + 20 from rfl, Nat.pow_add]; exact Nat.mul_lt_mul'' o.lw.d (by have := o.u3; omega)
  x := fun p hp => by
    obtain ⟨i, hi, rfl⟩ := mem_cor hp
    rw [wCs_len] at hi
    rw [wCs_at w (by omega)]
    simp only [wAt]
    have hu := o.u1
    have e := at_eq w.lf ((icor w.x w.y w.st i).1 : Rat) w.u0 w.u1 (by omega)
    rw [← e]
    have hd : (w.lf.den : Int) * w.u1 * (((icor w.x w.y w.st i).1 : Rat).den : Int) = ((w.lf.den * w.u1.natAbs : Nat) : Int) := by
      rw [Rat.den_intCast, Int.natCast_mul, show ((w.u1.natAbs : Nat) : Int) = w.u1 by omega]
      simp
    have hp2 := Nat.mul_pos w.lf.den_pos (show 0 < w.u1.natAbs by omega)
    have := den_dvd (n := w.lf.num * w.u1 * (((icor w.x w.y w.st i).1 : Rat).den : Int) + w.lf.den * w.u0 * ((icor w.x w.y w.st i).1 : Rat).num) (d := (w.lf.den : Int) * w.u1 * (((icor w.x w.y w.st i).1 : Rat).den : Int)) (by rw [hd]; omega)
    rw [hd, Int.natAbs_natCast] at this
    rw [hd]
    exact this
  y := fun p hp => by
    obtain ⟨i, hi, rfl⟩ := mem_cor hp
    rw [wCs_len] at hi
    rw [wCs_at w (by omega)]
    simp only [wAt]
    have hu := o.u3
    have e := at_eq w.lw ((icor w.x w.y w.st i).2 : Rat) w.u2 w.u3 (by omega)
    rw [← e]
    have hd : (w.lw.den : Int) * w.u3 * (((icor w.x w.y w.st i).2 : Rat).den : Int) = ((w.lw.den * w.u3.natAbs : Nat) : Int) := by
      rw [Rat.den_intCast, Int.natCast_mul, show ((w.u3.natAbs : Nat) : Int) = w.u3 by omega]
      simp
    have hp2 := Nat.mul_pos w.lw.den_pos (show 0 < w.u3.natAbs by omega)
    have := den_dvd (n := w.lw.num * w.u3 * (((icor w.x w.y w.st i).2 : Rat).den : Int) + w.lw.den * w.u2 * ((icor w.x w.y w.st i).2 : Rat).num) (d := (w.lw.den : Int) * w.u3 * (((icor w.x w.y w.st i).2 : Rat).den : Int)) (by rw [hd]; omega)
    rw [hd, Int.natAbs_natCast] at this
    rw [hd]
    exact this
/-- a chain's corners lie within it -/
theorem Ch.self_in {C : List Pt} (c : Ch C) : ∀ p ∈ C, InR C p := fun p hp => by
  obtain ⟨i, hi, rfl⟩ := mem_cor hp
  have hp := c.pos
  refine ⟨c.xle (by omega) (by omega), c.yle (by omega) hi, fun k hk => ?_⟩
  have h := c.chain.below (k := k + 1) (i := i) (by omega) (by omega) (by omega)
  have dx := c.hx k hk
  have e : cS C (k + 1) * ((cor C (k + 1)).1 - (cor C k).1) = (cor C k).2 - (cor C (k + 1)).2 := Rat.div_mul_cancel (by unfold cX; grind)
  have m := Rat.mul_le_mul_of_nonneg_right h (show (0 : Rat) ≤ (cor C (k + 1)).1 - (cor C k).1 by grind)
  unfold Lot.lin cX cY at m
  generalize cS C (k + 1) = s at *
  rw [← e]
  grind
/-! ### bounds -/
def iat (ic : List (Int × Int)) (i : Nat) : Int × Int := ic.getD i (0, 0)
theorem iat_at {ic : List (Int × Int)} {i : Nat} (h : i < ic.length) : ic[i] = iat ic i := by
  unfold iat
  rw [List.getD_eq_getElem?_getD, List.getElem?_eq_getElem h]; rfl
theorem atD_ip {ic : List (Int × Int)} {i : Nat} {z : Int} (h : i < ic.length) (e : z = (i : Int)) : atD (ic.map ip) z = .ok (.tup [.int (iat ic i).1, .int (iat ic i).2]) := by
  rw [atD_map h e, iat_at h]; rfl
theorem atD_ipl {ic : List (Int × Int)} (h : 0 < ic.length) : atD (ic.map ip) (-1) = .ok (.tup [.int (iat ic (ic.length - 1)).1, .int (iat ic (ic.length - 1)).2]) := by
  apply atD_last
  rw [List.getLast?_eq_getElem?, List.length_map, List.getElem?_map, List.getElem?_eq_getElem (by omega), iat_at (by omega)]; rfl
def bndK (ic : List (Int × Int)) (k : Nat) : D := .tup [.int ((iat ic k).2 - (iat ic (k + 1)).2), .int ((iat ic (k + 1)).1 - (iat ic k).1), .int (((iat ic k).2 - (iat ic (k + 1)).2) * (iat ic (k + 1)).1 + ((iat ic (k + 1)).1 - (iat ic k).1) * (iat ic (k + 1)).2)]
def bndD (ic : List (Int × Int)) : List D := .tup [.int 1, .int 0, .int (iat ic (ic.length - 1)).1] :: .tup [.int 0, .int 1, .int (iat ic 0).2] :: (List.range (ic.length - 1)).map (bndK ic)
theorem cmpOkA_ip : ∀ st : List (Int × Int), D.cmpOkA (st.map ip) = true
  | [] => rfl
  | _ :: st => by rw [List.map_cons, D.cmpOkA, cmpOkA_ip st]; rfl
theorem dpA_ip : ∀ st : List (Int × Int), D.dpA (st.map ip) ≤ 1
  | [] => by simp [D.dpA]
  | _ :: st => by
    rw [List.map_cons, D.dpA]
    have := dpA_ip st
    have e : ∀ c, D.dp (ip c) = 1 := fun _ => rfl
    rw [e]
    omega
theorem eqD_nil_ip (st : List (Int × Int)) : eqD (.lst (st.map ip)) (.lst []) = .ok (.bl (decide (st = []))) := by
  unfold eqD
  have h1 : D.cmpOk (.lst (st.map ip)) = true := cmpOkA_ip st
  have h2 : D.dp (.lst (st.map ip)) ≤ 60 := by have := dpA_ip st; show D.dpA _ + 1 ≤ 60; omega
  rw [h1, decide_eq_true h2]
  show R.ok (.bl (D.eqvA (st.map ip) [])) = _
  cases st <;> rfl
end Pv

namespace Pv.K59
open PySem PySem.Spec PyProof.Rows L2
def f0 : FD := ⟨1, 1, .fz, (.seq (.ret (.tp (.cons (.ix (.ix (.x (.fld "frontier" ["Lot"]) (.cons (.vr 0) .nil)) (.neg (.ct (.int 1)))) (.ct (.int 0))) (.cons (.ix (.ix (.x (.fld "frontier" ["Lot"]) (.cons (.vr 0) .nil)) (.ct (.int 0))) (.ct (.int 1))) .nil)))) .skip), none⟩
def f1 : FD := ⟨2, 2, .fz, (.seq (.ret (.cmp .lt (.bin .mul (.ix (.vr 0) (.ct (.int 0))) (.ix (.vr 1) (.ct (.int 1)))) (.bin .mul (.ix (.vr 1) (.ct (.int 0))) (.ix (.vr 0) (.ct (.int 1)))))) .skip), none⟩
def f2 : FD := ⟨1, 1, .fz, (.seq (.ite (.not (.and (.call 1 (.cons (.gl "ZERO" (.tup [(.int 0), (.int 1)])) (.cons (.vr 0) .nil))) (.call 1 (.cons (.vr 0) (.cons (.gl "ONE" (.tup [(.int 1), (.int 1)])) .nil))))) (.seq (.x (.rse "BadWeight") (.cons (.ct (.str "the weight is not strictly between 0 and 1")) .nil)) .skip) .skip) .skip), none⟩
def f3 : FD := ⟨2, 3, .fz, (.seq (.ite (.cmp .eq (.vr 1) (.ct (.int 0))) (.seq (.x (.rse "BadNumber") (.cons (.ct (.str "the denominator is zero")) .nil)) .skip) .skip) (.seq (.set 2 .fz (.blt .gcd (.cons (.vr 0) (.cons (.vr 1) .nil)))) (.seq (.ite (.cmp .lt (.vr 1) (.ct (.int 0))) (.seq (.set 2 .fz (.neg (.vr 2))) .skip) .skip) (.seq (.ret (.tp (.cons (.bin .fdiv (.vr 0) (.vr 2)) (.cons (.bin .fdiv (.vr 1) (.vr 2)) .nil)))) .skip)))), none⟩
def f4 : FD := ⟨2, 2, .fz, (.seq (.ret (.call 3 (.cons (.bin .sub (.bin .mul (.ix (.vr 0) (.ct (.int 0))) (.ix (.vr 1) (.ct (.int 1)))) (.bin .mul (.ix (.vr 1) (.ct (.int 0))) (.ix (.vr 0) (.ct (.int 1))))) (.cons (.bin .mul (.ix (.vr 0) (.ct (.int 1))) (.ix (.vr 1) (.ct (.int 1)))) .nil)))) .skip), none⟩
def f5 : FD := ⟨2, 2, .fz, (.seq (.ret (.tp (.cons (.call 4 (.cons (.ix (.vr 0) (.ct (.int 0))) (.cons (.ix (.vr 1) (.ct (.int 0))) .nil))) (.cons (.call 4 (.cons (.ix (.vr 0) (.ct (.int 1))) (.cons (.ix (.vr 1) (.ct (.int 1))) .nil))) .nil)))) .skip), none⟩
def f6 : FD := ⟨2, 2, .fz, (.seq (.ite (.call 1 (.cons (.vr 0) (.cons (.vr 1) .nil))) (.seq (.ret (.vr 1)) .skip) .skip) (.seq (.ret (.vr 0)) .skip)), none⟩
def f7b0 : IS := (.seq (.set 3 .fz (.ix (.x (.fld "frontier" ["Lot"]) (.cons (.vr 0) .nil)) (.bin .sub (.vr 2) (.ct (.int 1))))) (.seq (.set 4 .fz (.ix (.x (.fld "frontier" ["Lot"]) (.cons (.vr 0) .nil)) (.vr 2))) (.seq (.app 1 (.tp (.cons (.vr 3) (.cons (.vr 4) (.cons (.tp (.cons (.call 4 (.cons (.ix (.vr 3) (.ct (.int 1))) (.cons (.ix (.vr 4) (.ct (.int 1))) .nil))) (.cons (.call 4 (.cons (.ix (.vr 4) (.ct (.int 0))) (.cons (.ix (.vr 3) (.ct (.int 0))) .nil))) .nil))) .nil))))) .skip)))
def f7 : FD := ⟨1, 5, (.ol .fz), (.seq (.set 1 (.ol .fz) (.ls .nil)) (.seq (.for (.nm 2) (.it .rng (.cons (.ct (.int 1)) (.cons (.blt .len (.cons (.x (.fld "frontier" ["Lot"]) (.cons (.vr 0) .nil)) .nil)) .nil))) f7b0) (.seq (.ret (.vr 1)) .skip))), none⟩
def f8 : FD := ⟨2, 2, .fz, (.seq (.ite (.cmp .eq (.ix (.vr 1) (.ct (.int 0))) (.ct (.int 0))) (.seq (.x (.rse "BadNumber") (.cons (.ct (.str "division by zero")) .nil)) .skip) .skip) (.seq (.ret (.call 3 (.cons (.bin .mul (.ix (.vr 0) (.ct (.int 0))) (.ix (.vr 1) (.ct (.int 1)))) (.cons (.bin .mul (.ix (.vr 0) (.ct (.int 1))) (.ix (.vr 1) (.ct (.int 0)))) .nil)))) .skip)), none⟩
def f9 : FD := ⟨2, 2, .fz, (.seq (.ret (.call 3 (.cons (.bin .mul (.ix (.vr 0) (.ct (.int 0))) (.ix (.vr 1) (.ct (.int 0)))) (.cons (.bin .mul (.ix (.vr 0) (.ct (.int 1))) (.ix (.vr 1) (.ct (.int 1)))) .nil)))) .skip), none⟩
def f10 : FD := ⟨2, 2, .fz, (.seq (.ret (.call 3 (.cons (.bin .add (.bin .mul (.ix (.vr 0) (.ct (.int 0))) (.ix (.vr 1) (.ct (.int 1)))) (.bin .mul (.ix (.vr 1) (.ct (.int 0))) (.ix (.vr 0) (.ct (.int 1))))) (.cons (.bin .mul (.ix (.vr 0) (.ct (.int 1))) (.ix (.vr 1) (.ct (.int 1)))) .nil)))) .skip), none⟩
def f11 : FD := ⟨2, 2, .fz, (.seq (.ret (.call 10 (.cons (.call 9 (.cons (.ix (.vr 0) (.ct (.int 0))) (.cons (.ix (.vr 1) (.ct (.int 0))) .nil))) (.cons (.call 9 (.cons (.ix (.vr 0) (.ct (.int 1))) (.cons (.ix (.vr 1) (.ct (.int 1))) .nil))) .nil)))) .skip), none⟩
def f12b0 : IS := (.seq (.set 7 .fz (.call 11 (.cons (.vr 6) (.cons (.call 5 (.cons (.x (.prp "most" [("Lot", 0)]) (.cons (.vr 0) .nil)) (.cons (.vr 4) .nil))) .nil)))) (.seq (.set 3 .fz (.call 6 (.cons (.vr 3) (.cons (.call 8 (.cons (.vr 7) (.cons (.call 11 (.cons (.vr 6) (.cons (.vr 2) .nil))) .nil))) .nil)))) .skip))
def f12 : FD := ⟨2, 8, .fz, (.seq (.expr (.call 2 (.cons (.vr 1) .nil))) (.seq (.set 2 .fz (.tp (.cons (.vr 1) (.cons (.call 4 (.cons (.gl "ONE" (.tup [(.int 1), (.int 1)])) (.cons (.vr 1) .nil))) .nil)))) (.seq (.set 3 .fz (.gl "ZERO" (.tup [(.int 0), (.int 1)]))) (.seq (.for (.tp (.cons (.nm 4) (.cons (.nm 5) (.cons (.nm 6) .nil)))) (.it .val (.cons (.call 7 (.cons (.vr 0) .nil)) .nil)) f12b0) (.seq (.ret (.call 5 (.cons (.x (.prp "most" [("Lot", 0)]) (.cons (.vr 0) .nil)) (.cons (.tp (.cons (.call 9 (.cons (.vr 3) (.cons (.ix (.vr 2) (.ct (.int 0))) .nil))) (.cons (.call 9 (.cons (.vr 3) (.cons (.ix (.vr 2) (.ct (.int 1))) .nil))) .nil))) .nil)))) .skip))))), none⟩
def f13 : FD := ⟨2, 2, .fz, (.seq (.ret (.x (.kcall 12 1 ["weight"] []) (.cons (.vr 1) (.cons (.x (.fld "weight" ["LossRule"]) (.cons (.vr 0) .nil)) .nil)))) .skip), none⟩
def f14 : FD := ⟨2, 2, .fz, (.seq (.expr (.call 2 (.cons (.vr 1) .nil))) (.seq (.x (.fst "LossRule" 0 "weight" .fz) (.cons (.vr 1) .nil)) .skip)), some ((.oi [] []), (.oi ["weight"] [.fz]))⟩
def f15 : FD := ⟨3, 3, .fz, (.seq (.ret (.bin .sub (.bin .mul (.bin .sub (.ix (.vr 1) (.ct (.int 0))) (.ix (.vr 0) (.ct (.int 0)))) (.bin .sub (.ix (.vr 2) (.ct (.int 1))) (.ix (.vr 0) (.ct (.int 1))))) (.bin .mul (.bin .sub (.ix (.vr 1) (.ct (.int 1))) (.ix (.vr 0) (.ct (.int 1)))) (.bin .sub (.ix (.vr 2) (.ct (.int 0))) (.ix (.vr 0) (.ct (.int 0))))))) .skip), none⟩
def f16b0 : IS := (.seq (.set 1 .fz (.x .lcm (.cons (.vr 1) (.cons (.ix (.vr 3) (.ct (.int 1))) .nil)))) (.seq (.set 2 .fz (.x .lcm (.cons (.vr 2) (.cons (.ix (.vr 4) (.ct (.int 1))) .nil)))) .skip))
def f16b1 : IS := (.seq (.app 5 (.tp (.cons (.bin .mul (.ix (.vr 3) (.ct (.int 0))) (.bin .fdiv (.vr 1) (.ix (.vr 3) (.ct (.int 1))))) (.cons (.bin .mul (.ix (.vr 4) (.ct (.int 0))) (.bin .fdiv (.vr 2) (.ix (.vr 4) (.ct (.int 1))))) (.cons (.vr 6) .nil))))) .skip)
def f16 : FD := ⟨1, 7, (.ol .fz), (.seq (.set 1 .fz (.ct (.int 1))) (.seq (.set 2 .fz (.ct (.int 1))) (.seq (.for (.tp (.cons (.nm 3) (.cons (.nm 4) .nil))) (.it .val (.cons (.vr 0) .nil)) f16b0) (.seq (.set 5 (.ol .fz) (.ls .nil)) (.seq (.for (.tp (.cons (.nm 6) (.cons (.tp (.cons (.nm 3) (.cons (.nm 4) .nil))) .nil))) (.it .enu (.cons (.vr 0) .nil)) f16b1) (.seq (.ret (.vr 5)) .skip)))))), none⟩
def f17w0 : IE := (.and (.cmp .ge (.blt .len (.cons (.vr 1) .nil)) (.ct (.int 2))) (.cmp .ge (.call 15 (.cons (.ix (.vr 1) (.neg (.ct (.int 2)))) (.cons (.ix (.vr 1) (.neg (.ct (.int 1)))) (.cons (.vr 2) .nil)))) (.ct (.int 0))))
def f17b0 : IS := (.seq (.x (.pop 1) .nil) .skip)
def f17b1 : IS := (.seq (.whl f17w0 f17b0) (.seq (.app 1 (.vr 2)) .skip))
def f17w1 : IE := (.and (.cmp .ge (.blt .len (.cons (.vr 1) .nil)) (.ct (.int 2))) (.cmp .ge (.ix (.ix (.vr 1) (.ct (.int 1))) (.ct (.int 1))) (.ix (.ix (.vr 1) (.ct (.int 0))) (.ct (.int 1)))))
def f17b2 : IS := (.seq (.set 1 .fz (.slF (.vr 1) (.ct (.int 1)))) .skip)
def f17e0 : IE := (.ix (.vr 0) (.ix (.vr 2) (.ct (.int 2))))
def f17 : FD := ⟨1, 3, (.ol .fz), (.seq (.set 1 (.ol .fz) (.ls .nil)) (.seq (.for (.nm 2) (.it .val (.cons (.x .srt (.cons (.call 16 (.cons (.vr 0) .nil)) .nil)) .nil)) f17b1) (.seq (.frz 1) (.seq (.whl f17w1 f17b2) (.seq (.ret (.lc f17e0 (.nm 2) (.it .val (.cons (.vr 1) .nil)) .nil)) .skip))))), none⟩
def f18 : FD := ⟨2, 2, .fz, (.seq (.ite (.cmp .eq (.blt .len (.cons (.vr 1) .nil)) (.ct (.int 0))) (.seq (.x (.rse "NoCorner") (.cons (.ct (.str "a lot has at least one corner")) .nil)) .skip) .skip) (.seq (.x (.fst "Lot" 0 "frontier" .fz) (.cons (.blt .tuple (.cons (.call 17 (.cons (.blt .list (.cons (.vr 1) .nil)) .nil)) .nil)) .nil)) .skip)), some ((.oi [] []), (.oi ["frontier"] [.fz]))⟩
def f19 : FD := ⟨2, 2, .fz, (.seq (.ret (.cmp .lt (.bin .mul (.ix (.vr 0) (.ct (.int 0))) (.ix (.vr 1) (.ct (.int 1)))) (.bin .mul (.ix (.vr 1) (.ct (.int 0))) (.ix (.vr 0) (.ct (.int 1)))))) .skip), none⟩
def f20w0 : IE := (.and (.cmp .lt (.vr 3) (.blt .len (.cons (.vr 1) .nil))) (.not (.call 19 (.cons (.vr 2) (.cons (.ix (.vr 1) (.vr 3)) .nil)))))
def f20b0 : IS := (.seq (.set 3 .fz (.bin .add (.vr 3) (.ct (.int 1)))) .skip)
def f20b1 : IS := (.seq (.set 3 .fz (.ct (.int 0))) (.seq (.whl f20w0 f20b0) (.seq (.set 1 .fz (.bin .add (.bin .add (.slT (.vr 1) (.vr 3)) (.ls (.cons (.vr 2) .nil))) (.slF (.vr 1) (.vr 3)))) .skip)))
def f20 : FD := ⟨1, 4, .fz, (.seq (.set 1 (.ol .fz) (.ls .nil)) (.seq (.frz 1) (.seq (.for (.nm 2) (.it .val (.cons (.vr 0) .nil)) f20b1) (.seq (.ret (.vr 1)) .skip)))), none⟩
def f21 : FD := ⟨2, 2, .fz, (.seq (.ite (.cmp .lt (.vr 1) (.blt .len (.cons (.vr 0) .nil))) (.seq (.ret (.ix (.vr 0) (.vr 1))) .skip) .skip) (.seq (.ret (.ct (.int 0))) .skip)), none⟩
def f22w0 : IE := (.cmp .gt (.vr 3) (.ct (.int 0)))
def f22b0 : IS := (.seq (.set 4 .fz (.bin .sub (.vr 2) (.bin .mul (.bin .fdiv (.vr 2) (.vr 3)) (.vr 3)))) (.seq (.set 2 .fz (.vr 3)) (.seq (.set 3 .fz (.vr 4)) .skip)))
def f22 : FD := ⟨2, 5, .fz, (.seq (.set 2 .fz (.blt .abs (.cons (.vr 0) .nil))) (.seq (.set 3 .fz (.vr 1)) (.seq (.whl f22w0 f22b0) (.seq (.ret (.tp (.cons (.bin .fdiv (.vr 0) (.vr 2)) (.cons (.bin .fdiv (.vr 1) (.vr 2)) .nil)))) .skip)))), none⟩
def f23 : FD := ⟨3, 8, .fz, (.seq (.set 3 .fz (.ix (.vr 0) (.ct (.int 1)))) (.seq (.set 4 .fz (.ix (.ix (.vr 0) (.ct (.int 0))) (.ct (.int 0)))) (.seq (.set 5 .fz (.ix (.ix (.vr 0) (.ct (.int 0))) (.ct (.int 1)))) (.seq (.set 6 .fz (.bin .add (.bin .mul (.bin .mul (.ix (.vr 4) (.ct (.int 0))) (.ix (.vr 3) (.ct (.int 1)))) (.ix (.vr 1) (.ct (.int 1)))) (.bin .mul (.bin .mul (.ix (.vr 4) (.ct (.int 1))) (.ix (.vr 3) (.ct (.int 0)))) (.ix (.vr 1) (.ct (.int 0)))))) (.seq (.set 7 .fz (.bin .add (.bin .mul (.bin .mul (.ix (.vr 5) (.ct (.int 0))) (.ix (.vr 3) (.ct (.int 3)))) (.ix (.vr 2) (.ct (.int 1)))) (.bin .mul (.bin .mul (.ix (.vr 5) (.ct (.int 1))) (.ix (.vr 3) (.ct (.int 2)))) (.ix (.vr 2) (.ct (.int 0)))))) (.seq (.ret (.tp (.cons (.call 22 (.cons (.vr 6) (.cons (.bin .mul (.bin .mul (.ix (.vr 4) (.ct (.int 1))) (.ix (.vr 3) (.ct (.int 1)))) (.ix (.vr 1) (.ct (.int 1)))) .nil))) (.cons (.call 22 (.cons (.vr 7) (.cons (.bin .mul (.bin .mul (.ix (.vr 5) (.ct (.int 1))) (.ix (.vr 3) (.ct (.int 3)))) (.ix (.vr 2) (.ct (.int 1)))) .nil))) .nil)))) .skip)))))), none⟩
def f24e0 : IE := (.call 23 (.cons (.vr 0) (.cons (.tp (.cons (.ix (.vr 1) (.ct (.int 0))) (.cons (.ct (.int 1)) .nil))) (.cons (.tp (.cons (.ix (.vr 1) (.ct (.int 1))) (.cons (.ct (.int 1)) .nil))) .nil))))
def f24 : FD := ⟨1, 2, (.ol .fz), (.seq (.ret (.lc f24e0 (.nm 1) (.it .val (.cons (.ix (.vr 0) (.ct (.int 2))) .nil)) .nil)) .skip), none⟩
def f25 : FD := ⟨2, 2, .fz, (.seq (.ret (.call 22 (.cons (.bin .sub (.bin .mul (.ix (.vr 0) (.ct (.int 0))) (.ix (.vr 1) (.ct (.int 1)))) (.bin .mul (.ix (.vr 1) (.ct (.int 0))) (.ix (.vr 0) (.ct (.int 1))))) (.cons (.bin .mul (.ix (.vr 0) (.ct (.int 1))) (.ix (.vr 1) (.ct (.int 1)))) .nil)))) .skip), none⟩
def f26 : FD := ⟨2, 2, .fz, (.seq (.ret (.tp (.cons (.call 25 (.cons (.ix (.vr 0) (.ct (.int 0))) (.cons (.ix (.vr 1) (.ct (.int 0))) .nil))) (.cons (.call 25 (.cons (.ix (.vr 0) (.ct (.int 1))) (.cons (.ix (.vr 1) (.ct (.int 1))) .nil))) .nil)))) .skip), none⟩
def f27 : FD := ⟨2, 2, .fz, (.seq (.ite (.cmp .lt (.ix (.vr 1) (.ct (.int 0))) (.ct (.int 0))) (.seq (.ret (.call 22 (.cons (.bin .mul (.neg (.ix (.vr 0) (.ct (.int 0)))) (.ix (.vr 1) (.ct (.int 1)))) (.cons (.bin .mul (.neg (.ix (.vr 0) (.ct (.int 1)))) (.ix (.vr 1) (.ct (.int 0)))) .nil)))) .skip) .skip) (.seq (.ret (.call 22 (.cons (.bin .mul (.ix (.vr 0) (.ct (.int 0))) (.ix (.vr 1) (.ct (.int 1)))) (.cons (.bin .mul (.ix (.vr 0) (.ct (.int 1))) (.ix (.vr 1) (.ct (.int 0)))) .nil)))) .skip)), none⟩
def f28 : FD := ⟨2, 2, .fz, (.seq (.ret (.call 22 (.cons (.bin .add (.bin .mul (.ix (.vr 0) (.ct (.int 0))) (.ix (.vr 1) (.ct (.int 1)))) (.bin .mul (.ix (.vr 1) (.ct (.int 0))) (.ix (.vr 0) (.ct (.int 1))))) (.cons (.bin .mul (.ix (.vr 0) (.ct (.int 1))) (.ix (.vr 1) (.ct (.int 1)))) .nil)))) .skip), none⟩
def f29 : FD := ⟨2, 2, .fz, (.seq (.ret (.call 22 (.cons (.bin .mul (.ix (.vr 0) (.ct (.int 0))) (.ix (.vr 1) (.ct (.int 0)))) (.cons (.bin .mul (.ix (.vr 0) (.ct (.int 1))) (.ix (.vr 1) (.ct (.int 1)))) .nil)))) .skip), none⟩
def f30 : FD := ⟨1, 1, .fz, (.seq (.ret (.tp (.cons (.ix (.ix (.vr 0) (.neg (.ct (.int 1)))) (.ct (.int 0))) (.cons (.ix (.ix (.vr 0) (.ct (.int 0))) (.ct (.int 1))) .nil)))) .skip), none⟩
def f31b0 : IS := (.seq (.set 6 .fz (.call 25 (.cons (.ix (.ix (.vr 0) (.bin .sub (.vr 5) (.ct (.int 1)))) (.ct (.int 1))) (.cons (.ix (.ix (.vr 0) (.vr 5)) (.ct (.int 1))) .nil)))) (.seq (.set 7 .fz (.call 25 (.cons (.ix (.ix (.vr 0) (.vr 5)) (.ct (.int 0))) (.cons (.ix (.ix (.vr 0) (.bin .sub (.vr 5) (.ct (.int 1)))) (.ct (.int 0))) .nil)))) (.seq (.set 8 .fz (.call 26 (.cons (.vr 2) (.cons (.ix (.vr 0) (.vr 5)) .nil)))) (.seq (.set 9 .fz (.call 28 (.cons (.call 29 (.cons (.vr 6) (.cons (.ix (.vr 8) (.ct (.int 0))) .nil))) (.cons (.call 29 (.cons (.vr 7) (.cons (.ix (.vr 8) (.ct (.int 1))) .nil))) .nil)))) (.seq (.set 10 .fz (.call 27 (.cons (.vr 9) (.cons (.call 28 (.cons (.call 29 (.cons (.vr 6) (.cons (.ix (.vr 3) (.ct (.int 0))) .nil))) (.cons (.call 29 (.cons (.vr 7) (.cons (.ix (.vr 3) (.ct (.int 1))) .nil))) .nil))) .nil)))) (.seq (.ite (.call 19 (.cons (.vr 4) (.cons (.vr 10) .nil))) (.seq (.set 4 .fz (.vr 10)) .skip) .skip) .skip))))))
def f31 : FD := ⟨2, 11, .fz, (.seq (.set 2 .fz (.call 30 (.cons (.vr 0) .nil))) (.seq (.set 3 .fz (.tp (.cons (.vr 1) (.cons (.call 25 (.cons (.tp (.cons (.ct (.int 1)) (.cons (.ct (.int 1)) .nil))) (.cons (.vr 1) .nil))) .nil)))) (.seq (.set 4 .fz (.tp (.cons (.ct (.int 0)) (.cons (.ct (.int 1)) .nil)))) (.seq (.for (.nm 5) (.it .rng (.cons (.ct (.int 1)) (.cons (.blt .len (.cons (.vr 0) .nil)) .nil))) f31b0) (.seq (.ret (.call 26 (.cons (.vr 2) (.cons (.tp (.cons (.call 29 (.cons (.vr 4) (.cons (.ix (.vr 3) (.ct (.int 0))) .nil))) (.cons (.call 29 (.cons (.vr 4) (.cons (.ix (.vr 3) (.ct (.int 1))) .nil))) .nil))) .nil)))) .skip))))), none⟩
def f32 : FD := ⟨1, 1, .fz, (.seq (.ite (.or (.blt .isBool (.cons (.vr 0) .nil)) (.not (.blt .isInt (.cons (.vr 0) .nil)))) (.seq (.ret (.neg (.ct (.int 1)))) .skip) .skip) (.seq (.ret (.vr 0)) .skip)), none⟩
def f33 : FD := ⟨1, 3, .fz, (.seq (.set 1 .fz (.ls (.cons (.x (.isC "BadTie" ["BadTie"]) (.cons (.vr 0) .nil)) (.cons (.x (.isC "TooMany" ["TooMany"]) (.cons (.vr 0) .nil)) (.cons (.x (.isC "BadRows" ["BadRows"]) (.cons (.vr 0) .nil)) (.cons (.x (.isC "BadPairing" ["BadPairing"]) (.cons (.vr 0) .nil)) .nil)))))) (.seq (.set 1 .fz (.bin .add (.vr 1) (.ls (.cons (.x (.isC "BadTypes" ["BadTypes"]) (.cons (.vr 0) .nil)) (.cons (.x (.isC "BadTable" ["BadTable"]) (.cons (.vr 0) .nil)) (.cons (.x (.isC "NoCorner" ["NoCorner"]) (.cons (.vr 0) .nil)) .nil)))))) (.seq (.set 1 .fz (.bin .add (.vr 1) (.ls (.cons (.x (.isC "BadWeight" ["BadWeight"]) (.cons (.vr 0) .nil)) (.cons (.x (.isC "UnknownName" ["UnknownName"]) (.cons (.vr 0) .nil)) (.cons (.x (.isC "NoSuchName" ["NoSuchName"]) (.cons (.vr 0) .nil)) .nil)))))) (.seq (.set 1 .fz (.bin .add (.vr 1) (.ls (.cons (.x (.isC "NameTaken" ["NameTaken"]) (.cons (.vr 0) .nil)) (.cons (.x (.isC "BadDeed" ["BadDeed"]) (.cons (.vr 0) .nil)) (.cons (.x (.isC "NothingToUndo" ["NothingToUndo"]) (.cons (.vr 0) .nil)) .nil)))))) (.seq (.set 1 .fz (.bin .add (.vr 1) (.ls (.cons (.x (.isC "Outside" ["Outside"]) (.cons (.vr 0) .nil)) (.cons (.x (.isC "BadText" ["BadText"]) (.cons (.vr 0) .nil)) (.cons (.x (.isC "NothingSeen" ["NothingSeen"]) (.cons (.vr 0) .nil)) .nil)))))) (.seq (.set 1 .fz (.bin .add (.vr 1) (.ls (.cons (.x (.isC "NoGain" ["NoGain"]) (.cons (.vr 0) .nil)) (.cons (.x (.isC "BadEstate" ["BadEstate"]) (.cons (.vr 0) .nil)) .nil))))) (.seq (.ite (.or (.not (.x (.isC "ValueError" ["SettleError", "BadNumber", "NoGain", "Outside", "BadWeight", "BadTable", "BadRows", "BadEstate", "NothingSeen", "UnknownName", "TooMany", "BadText", "NoSuchName", "NameTaken", "BadDeed", "NothingToUndo", "BadTie", "BadPairing", "BadTypes", "NoCorner"]) (.cons (.vr 0) .nil))) (.cmp .ne (.x .lcnt (.cons (.vr 1) (.cons (.ct (.bl true)) .nil))) (.ct (.int 1)))) (.seq (.ret (.tp (.cons (.ct (.str "other")) (.cons (.ct (.int 0)) .nil)))) .skip) .skip) (.seq (.ite (.or (.ix (.vr 1) (.ct (.int 0))) (.or (.ix (.vr 1) (.ct (.int 2))) (.ix (.vr 1) (.ct (.int 11))))) (.seq .never .skip) .skip) (.seq (.ite (.ix (.vr 1) (.ct (.int 1))) (.seq .never .skip) .skip) (.seq (.ite (.ix (.vr 1) (.ct (.int 14))) (.seq .never .skip) .skip) (.seq (.ite (.ix (.vr 1) (.ct (.int 8))) (.seq .never .skip) .skip) (.seq (.ite (.ix (.vr 1) (.ct (.int 9))) (.seq .never .skip) .skip) (.seq (.ite (.ix (.vr 1) (.ct (.int 10))) (.seq .never .skip) .skip) (.seq (.set 2 .fz (.ls (.cons (.ct (.str "")) (.cons (.ct (.str "")) (.cons (.ct (.str "")) (.cons (.ct (.str "pairing")) (.cons (.ct (.str "types")) (.cons (.ct (.str "table")) (.cons (.ct (.str "corner")) (.cons (.ct (.str "weight")) (.cons (.ct (.str "")) (.cons (.ct (.str "")) (.cons (.ct (.str "")) (.cons (.ct (.str "")) (.cons (.ct (.str "undo")) (.cons (.ct (.str "outside")) (.cons (.ct (.str "")) .nil))))))))))))))))) (.seq (.ret (.tp (.cons (.ix (.bin .add (.vr 2) (.ls (.cons (.ct (.str "nothing")) (.cons (.ct (.str "gain")) (.cons (.ct (.str "estate")) .nil))))) (.x .lidx (.cons (.vr 1) (.cons (.ct (.bl true)) .nil)))) (.cons (.ct (.int 0)) .nil)))) .skip))))))))))))))), none⟩
def f34 : FD := ⟨1, 2, .fz, (.seq .never (.seq .never .skip)), none⟩
def f35 : FD := ⟨2, 2, .fz, (.seq (.ret (.call 5 (.cons (.x (.prp "most" [("Lot", 0)]) (.cons (.vr 0) .nil)) (.cons (.vr 1) .nil)))) .skip), none⟩
def f36b0 : IS := (.seq (.ite (.or (.not (.blt .isInt (.cons (.vr 1) .nil))) (.blt .isBool (.cons (.vr 1) .nil))) (.seq (.ret (.ct (.bl false))) .skip) .skip) .skip)
def f36 : FD := ⟨1, 2, .fz, (.seq (.ite (.or (.not (.blt .isTuple (.cons (.vr 0) .nil))) (.cmp .ne (.blt .len (.cons (.vr 0) .nil)) (.ct (.int 2)))) (.seq (.ret (.ct (.bl false))) .skip) .skip) (.seq (.for (.nm 1) (.it .val (.cons (.vr 0) .nil)) f36b0) (.seq (.ret (.and (.cmp .gt (.ix (.vr 0) (.ct (.int 1))) (.ct (.int 0))) (.cmp .eq (.call 22 (.cons (.ix (.vr 0) (.ct (.int 0))) (.cons (.ix (.vr 0) (.ct (.int 1))) .nil))) (.vr 0)))) .skip))), none⟩
def f37 : FD := ⟨1, 1, .fz, (.seq (.ite (.or (.not (.blt .isTuple (.cons (.vr 0) .nil))) (.cmp .ne (.blt .len (.cons (.vr 0) .nil)) (.ct (.int 2)))) (.seq (.ret (.ct (.bl false))) .skip) .skip) (.seq (.ret (.and (.call 36 (.cons (.ix (.vr 0) (.ct (.int 0))) .nil)) (.call 36 (.cons (.ix (.vr 0) (.ct (.int 1))) .nil)))) .skip)), none⟩
def f38b0 : IS := (.seq (.ite (.not (.call 19 (.cons (.ix (.ix (.vr 0) (.vr 2)) (.ct (.int 0))) (.cons (.vr 1) .nil)))) (.seq (.set 3 .fz (.call 27 (.cons (.call 25 (.cons (.vr 1) (.cons (.ix (.ix (.vr 0) (.bin .sub (.vr 2) (.ct (.int 1)))) (.ct (.int 0))) .nil))) (.cons (.call 25 (.cons (.ix (.ix (.vr 0) (.vr 2)) (.ct (.int 0))) (.cons (.ix (.ix (.vr 0) (.bin .sub (.vr 2) (.ct (.int 1)))) (.ct (.int 0))) .nil))) .nil)))) (.seq (.set 4 .fz (.call 25 (.cons (.ix (.ix (.vr 0) (.vr 2)) (.ct (.int 1))) (.cons (.ix (.ix (.vr 0) (.bin .sub (.vr 2) (.ct (.int 1)))) (.ct (.int 1))) .nil)))) (.seq (.ret (.call 28 (.cons (.ix (.ix (.vr 0) (.bin .sub (.vr 2) (.ct (.int 1)))) (.ct (.int 1))) (.cons (.call 29 (.cons (.vr 3) (.cons (.vr 4) .nil))) .nil)))) .skip))) .skip) .skip)
def f38 : FD := ⟨2, 5, .fz, (.seq (.ite (.not (.call 19 (.cons (.ix (.ix (.vr 0) (.ct (.int 0))) (.ct (.int 0))) (.cons (.vr 1) .nil)))) (.seq (.ret (.ix (.ix (.vr 0) (.ct (.int 0))) (.ct (.int 1)))) .skip) .skip) (.seq (.for (.nm 2) (.it .rng (.cons (.ct (.int 1)) (.cons (.blt .len (.cons (.vr 0) .nil)) .nil))) f38b0) (.seq (.ret (.ix (.ix (.vr 0) (.neg (.ct (.int 1)))) (.ct (.int 1)))) .skip))), none⟩
def f39 : FD := ⟨2, 2, .fz, (.seq (.ite (.or (.isN (.vr 1)) (.call 19 (.cons (.ix (.ix (.vr 0) (.neg (.ct (.int 1)))) (.ct (.int 0))) (.cons (.ix (.vr 1) (.ct (.int 0))) .nil)))) (.seq (.ret (.ct (.bl false))) .skip) .skip) (.seq (.ret (.not (.call 19 (.cons (.call 38 (.cons (.vr 0) (.cons (.ix (.vr 1) (.ct (.int 0))) .nil))) (.cons (.ix (.vr 1) (.ct (.int 1))) .nil))))) .skip)), none⟩
def f40 : FD := ⟨2, 2, .fz, (.seq (.ite (.not (.call 39 (.cons (.vr 0) (.cons (.vr 1) .nil)))) (.seq (.ret (.ct (.bl false))) .skip) .skip) (.seq (.ret (.or (.cmp .eq (.ix (.vr 1) (.ct (.int 0))) (.ix (.ix (.vr 0) (.neg (.ct (.int 1)))) (.ct (.int 0)))) (.cmp .eq (.ix (.vr 1) (.ct (.int 1))) (.call 38 (.cons (.vr 0) (.cons (.ix (.vr 1) (.ct (.int 0))) .nil)))))) .skip)), none⟩
def f41 : FD := ⟨4, 5, .fz, (.seq (.ite (.or (.not (.call 37 (.cons (.vr 3) .nil))) (.not (.call 40 (.cons (.vr 1) (.cons (.vr 3) .nil))))) (.seq (.ret (.ct (.bl false))) .skip) .skip) (.seq (.set 4 .fz (.call 26 (.cons (.call 30 (.cons (.vr 1) .nil)) (.cons (.vr 3) .nil)))) (.seq (.ite (.or (.cmp .lt (.ix (.ix (.vr 4) (.ct (.int 0))) (.ct (.int 0))) (.ct (.int 0))) (.cmp .lt (.ix (.ix (.vr 4) (.ct (.int 1))) (.ct (.int 0))) (.ct (.int 0)))) (.seq (.ret (.ct (.bl false))) .skip) .skip) (.seq (.ite (.cmp .ne (.call 29 (.cons (.ix (.vr 4) (.ct (.int 0))) (.cons (.call 25 (.cons (.tp (.cons (.ct (.int 1)) (.cons (.ct (.int 1)) .nil))) (.cons (.vr 2) .nil))) .nil))) (.call 29 (.cons (.ix (.vr 4) (.ct (.int 1))) (.cons (.vr 2) .nil)))) (.seq (.ret (.ct (.bl false))) .skip) .skip) (.seq (.ret (.and (.cmp .eq (.vr 3) (.call 31 (.cons (.vr 1) (.cons (.vr 2) .nil)))) (.cmp .eq (.x (.mth "losses" [("Lot", 35)]) (.cons (.vr 0) (.cons (.vr 3) .nil))) (.vr 4)))) .skip))))), none⟩
def f42b0 : IS := (.seq (.set 3 .fz (.bin .sub (.ix (.ix (.vr 0) (.bin .sub (.vr 2) (.ct (.int 1)))) (.ct (.int 1))) (.ix (.ix (.vr 0) (.vr 2)) (.ct (.int 1))))) (.seq (.set 4 .fz (.bin .sub (.ix (.ix (.vr 0) (.vr 2)) (.ct (.int 0))) (.ix (.ix (.vr 0) (.bin .sub (.vr 2) (.ct (.int 1)))) (.ct (.int 0))))) (.seq (.app 1 (.tp (.cons (.vr 3) (.cons (.vr 4) (.cons (.bin .add (.bin .mul (.vr 3) (.ix (.ix (.vr 0) (.vr 2)) (.ct (.int 0)))) (.bin .mul (.vr 4) (.ix (.ix (.vr 0) (.vr 2)) (.ct (.int 1))))) .nil))))) .skip)))
def f42 : FD := ⟨1, 5, (.ol .fz), (.seq (.set 1 (.ol .fz) (.ls (.cons (.tp (.cons (.ct (.int 1)) (.cons (.ct (.int 0)) (.cons (.ix (.ix (.vr 0) (.neg (.ct (.int 1)))) (.ct (.int 0))) .nil)))) (.cons (.tp (.cons (.ct (.int 0)) (.cons (.ct (.int 1)) (.cons (.ix (.ix (.vr 0) (.ct (.int 0))) (.ct (.int 1))) .nil)))) .nil)))) (.seq (.for (.nm 2) (.it .rng (.cons (.ct (.int 1)) (.cons (.blt .len (.cons (.vr 0) .nil)) .nil))) f42b0) (.seq (.ret (.vr 1)) .skip))), none⟩
def f43b0 : IS := (.seq (.app 4 (.bin .mod (.blt .int (.cons (.vr 3) .nil)) (.vr 1))) (.seq (.set 3 .fz (.bin .fdiv (.vr 3) (.vr 1))) .skip))
def f43b1 : IS := (.seq (.set 3 .fz (.bin .mod (.blt .int (.cons (.bin .add (.bin .add (.bin .mul (.vr 3) (.ct (.int 48271))) (.bin .mul (.vr 5) (.ct (.int 69621)))) (.ct (.int 17))) .nil)) (.ct (.int 2147483647)))) (.seq (.set 3 .fz (.bin .mod (.blt .int (.cons (.bin .add (.bin .add (.bin .mul (.vr 3) (.ct (.int 16807))) (.bin .mul (.ct (.int 2)) (.vr 5))) (.ct (.int 5))) .nil)) (.ct (.int 2147483629)))) (.seq (.app 4 (.bin .mod (.blt .int (.cons (.bin .fdiv (.vr 3) (.ct (.int 64))) .nil)) (.vr 1))) .skip)))
def f43 : FD := ⟨3, 6, (.ol .fz), (.seq (.set 3 .fz (.blt .abs (.cons (.blt .int (.cons (.vr 0) .nil)) .nil))) (.seq (.set 4 (.ol .fz) (.ls .nil)) (.seq (.ite (.cmp .ge (.vr 3) (.bin .pow (.ct (.int 10)) (.ct (.int 18)))) (.seq (.for (.nm 5) (.it .rng (.cons (.vr 2) .nil)) f43b0) (.seq (.ret (.vr 4)) .skip)) .skip) (.seq (.for (.nm 5) (.it .rng (.cons (.vr 2) .nil)) f43b1) (.seq (.ret (.vr 4)) .skip))))), none⟩
def f44w0 : IE := (.and (.cmp .lt (.vr 5) (.blt .len (.cons (.vr 2) .nil))) (.cmp .lt (.bin .mul (.ix (.ix (.vr 2) (.vr 5)) (.ct (.int 1))) (.ix (.vr 4) (.ct (.int 0)))) (.bin .mul (.ix (.vr 4) (.ct (.int 1))) (.ix (.ix (.vr 2) (.vr 5)) (.ct (.int 0))))))
def f44b0 : IS := (.seq (.set 5 .fz (.bin .add (.vr 5) (.ct (.int 1)))) .skip)
def f44b1 : IS := (.seq (.set 4 .fz (.tp (.cons (.bin .add (.ct (.int 1)) (.ix (.vr 0) (.bin .add (.ct (.int 12)) (.bin .mul (.ct (.int 2)) (.vr 3))))) (.cons (.bin .add (.ct (.int 1)) (.ix (.vr 0) (.bin .add (.ct (.int 13)) (.bin .mul (.ct (.int 2)) (.vr 3))))) .nil)))) (.seq (.ite (.cmp .eq (.bin .mod (.blt .int (.cons (.ix (.vr 0) (.ct (.int 2))) .nil)) (.ct (.int 2))) (.ct (.int 0))) (.seq (.set 4 .fz (.tp (.cons (.bin .add (.ct (.int 1)) (.bin .mod (.blt .int (.cons (.ix (.vr 0) (.bin .add (.ct (.int 12)) (.bin .mul (.ct (.int 2)) (.vr 3)))) .nil)) (.ct (.int 7)))) (.cons (.bin .add (.ct (.int 1)) (.bin .mod (.blt .int (.cons (.ix (.vr 0) (.bin .add (.ct (.int 13)) (.bin .mul (.ct (.int 2)) (.vr 3)))) .nil)) (.ct (.int 7)))) .nil)))) .skip) .skip) (.seq (.set 5 .fz (.ct (.int 0))) (.seq (.whl f44w0 f44b0) (.seq (.ite (.or (.cmp .eq (.vr 5) (.blt .len (.cons (.vr 2) .nil))) (.cmp .gt (.bin .mul (.ix (.ix (.vr 2) (.vr 5)) (.ct (.int 1))) (.ix (.vr 4) (.ct (.int 0)))) (.bin .mul (.ix (.vr 4) (.ct (.int 1))) (.ix (.ix (.vr 2) (.vr 5)) (.ct (.int 0)))))) (.seq (.set 2 .fz (.bin .add (.bin .add (.slT (.vr 2) (.vr 5)) (.ls (.cons (.vr 4) .nil))) (.slF (.vr 2) (.vr 5)))) .skip) .skip) .skip)))))
def f44 : FD := ⟨2, 6, .fz, (.seq (.set 2 (.ol .fz) (.ls .nil)) (.seq (.frz 2) (.seq (.for (.nm 3) (.it .rng (.cons (.vr 1) .nil)) f44b1) (.seq (.ret (.vr 2)) .skip)))), none⟩
def f45b0 : IS := (.seq (.set 5 .fz (.bin .add (.vr 5) (.ix (.vr 6) (.ct (.int 1))))) .skip)
def f45b1 : IS := (.seq (.set 4 .fz (.bin .add (.vr 4) (.ix (.vr 6) (.ct (.int 0))))) (.seq (.set 5 .fz (.bin .sub (.vr 5) (.ix (.vr 6) (.ct (.int 1))))) (.seq (.app 7 (.tp (.cons (.vr 4) (.cons (.vr 5) .nil)))) .skip)))
def f45e0 : IE := (.bin .add (.bin .mul (.vr 11) (.bin .pow (.ct (.int 10)) (.ct (.int 5)))) (.ix (.vr 1) (.ct (.int 9))))
def f45 : FD := ⟨1, 12, .fz, (.seq (.set 1 .fz (.call 43 (.cons (.vr 0) (.cons (.ct (.int 60)) (.cons (.ct (.int 54)) .nil))))) (.seq (.set 2 .fz (.bin .mod (.blt .int (.cons (.ix (.vr 1) (.ct (.int 0))) .nil)) (.ct (.int 6)))) (.seq (.ite (.cmp .ge (.ix (.vr 1) (.ct (.int 0))) (.ct (.int 54))) (.seq (.set 2 .fz (.bin .add (.ct (.int 6)) (.bin .mod (.blt .int (.cons (.ix (.vr 1) (.ct (.int 1))) .nil)) (.ct (.int 16))))) .skip) .skip) (.seq (.set 3 .fz (.call 44 (.cons (.vr 1) (.cons (.vr 2) .nil)))) (.seq (.set 4 .fz (.blt .max (.cons (.ct (.int 0)) (.cons (.bin .sub (.bin .mod (.blt .int (.cons (.ix (.vr 1) (.ct (.int 3))) .nil)) (.ct (.int 8))) (.ct (.int 3))) .nil)))) (.seq (.set 5 .fz (.blt .max (.cons (.ct (.int 0)) (.cons (.bin .sub (.bin .mod (.blt .int (.cons (.ix (.vr 1) (.ct (.int 4))) .nil)) (.ct (.int 8))) (.ct (.int 3))) .nil)))) (.seq (.ite (.cmp .eq (.vr 3) (.ls .nil)) (.seq (.set 4 .fz (.bin .add (.vr 4) (.ct (.int 1)))) (.seq (.set 5 .fz (.bin .add (.vr 5) (.ct (.int 1)))) .skip)) .skip) (.seq (.for (.nm 6) (.it .val (.cons (.vr 3) .nil)) f45b0) (.seq (.set 7 (.ol .fz) (.ls (.cons (.tp (.cons (.vr 4) (.cons (.vr 5) .nil))) .nil))) (.seq (.for (.nm 6) (.it .val (.cons (.vr 3) .nil)) f45b1) (.seq (.set 8 (.ol .fz) (.ls (.cons (.bin .add (.ct (.int 1)) (.bin .mod (.blt .int (.cons (.ix (.vr 1) (.ct (.int 5))) .nil)) (.ct (.int 6)))) (.cons (.bin .add (.ct (.int 1)) (.bin .mod (.blt .int (.cons (.ix (.vr 1) (.ct (.int 6))) .nil)) (.ct (.int 6)))) (.cons (.bin .add (.ct (.int 1)) (.bin .mod (.blt .int (.cons (.ix (.vr 1) (.ct (.int 7))) .nil)) (.ct (.int 6)))) (.cons (.bin .add (.ct (.int 1)) (.bin .mod (.blt .int (.cons (.ix (.vr 1) (.ct (.int 8))) .nil)) (.ct (.int 6)))) .nil)))))) (.seq (.ite (.cmp .eq (.bin .mod (.blt .int (.cons (.ix (.vr 1) (.ct (.int 2))) .nil)) (.ct (.int 5))) (.ct (.int 4))) (.seq (.frz 8) (.seq (.set 8 (.ol .fz) (.lc f45e0 (.nm 11) (.it .val (.cons (.vr 8) .nil)) .nil)) .skip)) .skip) (.seq (.set 9 .fz (.call 22 (.cons (.bin .sub (.ix (.vr 1) (.ct (.int 10))) (.ct (.int 30))) (.cons (.bin .add (.ct (.int 1)) (.bin .mod (.blt .int (.cons (.ix (.vr 1) (.ct (.int 9))) .nil)) (.ct (.int 6)))) .nil)))) (.seq (.set 10 .fz (.call 22 (.cons (.bin .sub (.ix (.vr 1) (.ct (.int 11))) (.ct (.int 30))) (.cons (.bin .add (.ct (.int 1)) (.bin .mod (.blt .int (.cons (.ix (.vr 1) (.ct (.int 8))) .nil)) (.ct (.int 6)))) .nil)))) (.seq (.frz 7) (.seq (.frz 8) (.seq (.ret (.tp (.cons (.tp (.cons (.vr 9) (.cons (.vr 10) .nil))) (.cons (.vr 8) (.cons (.vr 7) (.cons (.call 42 (.cons (.vr 7) .nil)) .nil)))))) .skip))))))))))))))))), none⟩
def f46b0 : IS := (.seq (.set 9 .fz (.x (.kcall 12 1 ["weight"] []) (.cons (.vr 2) (.cons (.vr 6) .nil)))) (.seq (.set 10 .fz (.x (.kmk "LossRule" 14 0 ["weight"] []) (.cons (.vr 6) .nil))) (.seq (.ite (.or (.not (.call 41 (.cons (.vr 2) (.cons (.vr 1) (.cons (.vr 6) (.cons (.vr 9) .nil)))))) (.or (.cmp .ne (.x (.fld "weight" ["LossRule"]) (.cons (.vr 10) .nil)) (.vr 6)) (.cmp .ne (.x (.obc [("LossRule", 13)]) (.cons (.vr 10) (.cons (.vr 2) .nil))) (.vr 9)))) (.seq (.ret (.ct (.bl false))) .skip) .skip) (.seq (.ite (.or (.and (.ntN (.vr 5)) (.call 19 (.cons (.ix (.vr 5) (.ct (.int 0))) (.cons (.ix (.vr 9) (.ct (.int 0))) .nil)))) (.and (.ntN (.vr 5)) (.call 19 (.cons (.ix (.vr 9) (.ct (.int 1))) (.cons (.ix (.vr 5) (.ct (.int 1))) .nil))))) (.seq (.ret (.ct (.bl false))) .skip) .skip) (.seq (.set 5 .fz (.vr 9)) .skip)))))
def f46b1 : IS := (.seq (.ite (.cmp .ne (.refd 33 ["BadWeight"] (.x (.kcall 12 1 ["weight"] []) (.cons (.vr 2) (.cons (.vr 8) .nil)))) (.tp (.cons (.ct (.str "weight")) (.cons (.ct (.int 0)) .nil)))) (.seq (.ret (.ct (.bl false))) .skip) .skip) (.seq (.ite (.cmp .ne (.refd 33 ["BadWeight"] (.x (.kmk "LossRule" 14 0 ["weight"] []) (.cons (.vr 8) .nil))) (.tp (.cons (.ct (.str "weight")) (.cons (.ct (.int 0)) .nil)))) (.seq (.ret (.ct (.bl false))) .skip) .skip) .skip))
def f46 : FD := ⟨1, 11, .fz, (.seq (.set 1 .fz (.call 24 (.cons (.call 45 (.cons (.call 21 (.cons (.vr 0) (.cons (.ct (.int 0)) .nil))) .nil)) .nil))) (.seq (.set 2 .fz (.x (.mk "Lot" 18) (.cons (.blt .list (.cons (.vr 1) .nil)) .nil))) (.seq (.set 3 (.ol .fz) (.ls (.cons (.call 22 (.cons (.bin .add (.ct (.int 1)) (.bin .mod (.blt .int (.cons (.call 21 (.cons (.vr 0) (.cons (.ct (.int 1)) .nil))) .nil)) (.ct (.int 11)))) (.cons (.ct (.int 12)) .nil))) .nil))) (.seq (.set 4 .fz (.bin .add (.ct (.int 2)) (.bin .mod (.blt .int (.cons (.call 21 (.cons (.vr 0) (.cons (.ct (.int 2)) .nil))) .nil)) (.bin .pow (.ct (.int 10)) (.ct (.int 30)))))) (.seq (.app 3 (.call 22 (.cons (.bin .add (.ct (.int 1)) (.bin .mod (.blt .int (.cons (.call 21 (.cons (.vr 0) (.cons (.ct (.int 3)) .nil))) .nil)) (.bin .sub (.vr 4) (.ct (.int 1))))) (.cons (.vr 4) .nil)))) (.seq (.set 5 .fz (.ct .non)) (.seq (.frz 3) (.seq (.for (.nm 6) (.it .val (.cons (.call 20 (.cons (.bin .add (.vr 3) (.ls (.cons (.tp (.cons (.ct (.int 1)) (.cons (.ct (.int 2)) .nil))) (.cons (.tp (.cons (.ct (.int 1)) (.cons (.ct (.int 99)) .nil))) (.cons (.tp (.cons (.ct (.int 98)) (.cons (.ct (.int 99)) .nil))) .nil))))) .nil)) .nil)) f46b0) (.seq (.set 7 .fz (.x (.kmk "LossRule" 14 0 [] [(.tup [(.int 1), (.int 2)])]) .nil)) (.seq (.ite (.or (.cmp .ne (.x (.fld "weight" ["LossRule"]) (.cons (.vr 7) .nil)) (.tp (.cons (.ct (.int 1)) (.cons (.ct (.int 2)) .nil)))) (.or (.cmp .ne (.x (.obc [("LossRule", 13)]) (.cons (.vr 7) (.cons (.vr 2) .nil))) (.x (.kcall 12 1 [] [(.tup [(.int 1), (.int 2)])]) (.cons (.vr 2) .nil))) (.cmp .ne (.x (.kcall 12 1 [] [(.tup [(.int 1), (.int 2)])]) (.cons (.vr 2) .nil)) (.call 31 (.cons (.vr 1) (.cons (.tp (.cons (.ct (.int 1)) (.cons (.ct (.int 2)) .nil))) .nil)))))) (.seq (.ret (.ct (.bl false))) .skip) .skip) (.seq (.for (.nm 8) (.it .val (.cons (.ls (.cons (.tp (.cons (.ct (.int 0)) (.cons (.ct (.int 1)) .nil))) (.cons (.tp (.cons (.ct (.int 1)) (.cons (.ct (.int 1)) .nil))) (.cons (.tp (.cons (.neg (.ct (.int 1))) (.cons (.ct (.int 3)) .nil))) (.cons (.tp (.cons (.ct (.int 4)) (.cons (.ct (.int 3)) .nil))) .nil))))) .nil)) f46b1) (.seq (.ret (.ct (.bl true))) .skip)))))))))))), none⟩
def PP : List FD := [f0, f1, f2, f3, f4, f5, f6, f7, f8, f9, f10, f11, f12, f13, f14, f15, f16, f17, f18, f19, f20, f21, f22, f23, f24, f25, f26, f27, f28, f29, f30, f31, f32, f33, f34, f35, f36, f37, f38, f39, f40, f41, f42, f43, f44, f45, f46]
end Pv.K59

namespace Pv.K59
open PySem PySem.Spec PyProof.Rows L2
theorem mkF : MkQ PP 3 := mkq_frac rfl
theorem mkW : MkQ PP 22 := low_ok rfl
theorem plus_s {a b : Rat} {k l : Nat} [A : Zs a k] [B : Zs b l] (h : k + l + 1 < 9000) : sem PP 10 [fr a, fr b] = .ok (fr (a + b)) := (plus_ok (P := PP) rfl (by decide) mkF A.o B.o h).1
theorem minus_s {a b : Rat} {k l : Nat} [A : Zs a k] [B : Zs b l] (h : k + l + 1 < 9000) : sem PP 4 [fr a, fr b] = .ok (fr (a - b)) := (minus_ok (P := PP) rfl (by decide) mkF A.o B.o h).1
theorem times_s {a b : Rat} {k l : Nat} [A : Zs a k] [B : Zs b l] (h : k + l < 9000) : sem PP 9 [fr a, fr b] = .ok (fr (a * b)) := (times_ok (P := PP) rfl (by decide) mkF A.o B.o h).1
theorem over_p {a b : Rat} {k l : Nat} [A : Zs a k] [B : Zs b l] (h0 : b ≠ 0) (h : k + l < 9000) : sem PP 8 [fr a, fr b] = .ok (fr (a / b)) := over_okn (P := PP) rfl (by decide) rfl A.o B.o h0 h
theorem below_s {a b : Rat} {k l : Nat} [A : Zs a k] [B : Zs b l] (h : k + l < 1000000) : sem PP 1 [fr a, fr b] = .ok (.bl (decide (a < b))) := below_ok (P := PP) rfl A.o B.o h
theorem larger_s {a b : Rat} {k l : Nat} [A : Zs a k] [B : Zs b l] (h : k + l < 1000000) : sem PP 6 [fr a, fr b] = .ok (fr (mx a b)) := by
  rw [sem_eqN PP (j := 6) (F := f6) rfl]
  by_cases c : a < b <;> simp (disch := omega) [runF, FD.out, Fl.out, Fl.outL, lent, exec, ev, R.fl_ok, argF_ok, argF, argD_ok, argD, consD_ok, consD, preX, xopD, sopD, optJ, noX, mkO, lkp, optR, badd, bsub, bmul, bfdiv, bmod, bpow, baddl, baddt, cmpD, notR, negR, bltD, ixl, ixt, ixs, intR, eqD_ii, eqD_fr, eqD_ptt, mkT0, mkT1, mkT2, mkT3, mkT4, mkL0, mkL1, mkL2, mkL3, mkL4, atD0, atD1, atD2, atD3, ixfr0, ixfr1, cmpI, lot, pt, semN_lt, List.getElem?_cons_zero, List.getElem?_cons_succ, f6, plus_s, minus_s, times_s, below_s, larger_s, c, mx]
theorem lplus_s {a b : Rat} {k l : Nat} [A : Zs a k] [B : Zs b l] (h : k + l + 1 < 9000) : sem PP 28 [fr a, fr b] = .ok (fr (a + b)) := (plus_ok (P := PP) rfl (by decide) mkW A.o B.o h).1
theorem lminus_s {a b : Rat} {k l : Nat} [A : Zs a k] [B : Zs b l] (h : k + l + 1 < 9000) : sem PP 25 [fr a, fr b] = .ok (fr (a - b)) := (minus_ok (P := PP) rfl (by decide) mkW A.o B.o h).1
theorem lminus1_s {b : Rat} {l : Nat} [B : Zs b l] (h : 1 + l + 1 < 9000) : sem PP 25 [.tup [.int 1, .int 1], fr b] = .ok (fr (1 - b)) := lminus_s (a := 1) (by omega)
theorem ltimes_s {a b : Rat} {k l : Nat} [A : Zs a k] [B : Zs b l] (h : k + l < 9000) : sem PP 29 [fr a, fr b] = .ok (fr (a * b)) := (times_ok (P := PP) rfl (by decide) mkW A.o B.o h).1
theorem lless_s {a b : Rat} {k l : Nat} [A : Zs a k] [B : Zs b l] (h : k + l < 1000000) : sem PP 19 [fr a, fr b] = .ok (.bl (decide (a < b))) := below_ok (P := PP) rfl A.o B.o h
theorem lover_p {a b : Rat} {k l : Nat} [A : Zs a k] [B : Zs b l] (h0 : b ≠ 0) (h : k + l < 9000) : sem PP 27 [fr a, fr b] = .ok (fr (a / b)) := lover_okn (P := PP) rfl (by decide) mkW A.o B.o h0 h
theorem gap_s {a b c d : Rat} {k l m n : Nat} [A : Zs a k] [B : Zs b l] [C : Zs c m] [Dd : Zs d n] (h1 : k + m + 1 < 9000) (h2 : l + n + 1 < 9000) : sem PP 5 [.tup [fr a, fr b], .tup [fr c, fr d]] = .ok (.tup [fr (a - c), fr (b - d)]) := by
  rw [sem_eqN PP (j := 5) (F := f5) rfl]
  simp (disch := omega) [runF, FD.out, Fl.out, Fl.outL, lent, exec, ev, R.fl_ok, argF_ok, argF, argD_ok, argD, consD_ok, consD, preX, xopD, sopD, optJ, noX, mkO, lkp, optR, badd, bsub, bmul, bfdiv, bmod, bpow, baddl, baddt, cmpD, notR, negR, bltD, ixl, ixt, ixs, intR, eqD_ii, eqD_fr, eqD_ptt, mkT0, mkT1, mkT2, mkT3, mkT4, mkL0, mkL1, mkL2, mkL3, mkL4, atD0, atD1, atD2, atD3, ixfr0, ixfr1, cmpI, lot, pt, semN_lt, List.getElem?_cons_zero, List.getElem?_cons_succ, f5, plus_s, minus_s, times_s, below_s, larger_s, lplus_s, lminus_s, lminus1_s, ltimes_s, lless_s, gap_s]
theorem weighed_s {a b c d : Rat} {k l m n : Nat} [A : Zs a k] [B : Zs b l] [C : Zs c m] [Dd : Zs d n] (h1 : k + m + (l + n) + 1 < 9000) : sem PP 11 [.tup [fr a, fr b], .tup [fr c, fr d]] = .ok (fr (a * c + b * d)) := by
  rw [sem_eqN PP (j := 11) (F := f11) rfl]
  simp (disch := omega) [runF, FD.out, Fl.out, Fl.outL, lent, exec, ev, R.fl_ok, argF_ok, argF, argD_ok, argD, consD_ok, consD, preX, xopD, sopD, optJ, noX, mkO, lkp, optR, badd, bsub, bmul, bfdiv, bmod, bpow, baddl, baddt, cmpD, notR, negR, bltD, ixl, ixt, ixs, intR, eqD_ii, eqD_fr, eqD_ptt, mkT0, mkT1, mkT2, mkT3, mkT4, mkL0, mkL1, mkL2, mkL3, mkL4, atD0, atD1, atD2, atD3, ixfr0, ixfr1, cmpI, lot, pt, semN_lt, List.getElem?_cons_zero, List.getElem?_cons_succ, f11, plus_s, minus_s, times_s, below_s, larger_s, lplus_s, lminus_s, lminus1_s, ltimes_s, lless_s, gap_s, weighed_s]
theorem most_r {cs : List Pt} (h : 0 < cs.length) : sem PP 0 [lot cs] = .ok (.tup [fr (cor cs (cs.length - 1)).1, fr (cor cs 0).2]) := by
  rw [sem_eqN PP (j := 0) (F := f0) rfl]
  simp (disch := omega) [runF, FD.out, Fl.out, Fl.outL, lent, exec, ev, R.fl_ok, argF_ok, argF, argD_ok, argD, consD_ok, consD, preX, xopD, sopD, optJ, noX, mkO, lkp, optR, badd, bsub, bmul, bfdiv, bmod, bpow, baddl, baddt, cmpD, notR, negR, bltD, ixl, ixt, ixs, intR, eqD_ii, eqD_fr, eqD_ptt, mkT0, mkT1, mkT2, mkT3, mkT4, mkL0, mkL1, mkL2, mkL3, mkL4, atD0, atD1, atD2, atD3, ixfr0, ixfr1, cmpI, lot, pt, semN_lt, List.getElem?_cons_zero, List.getElem?_cons_succ, f0, plus_s, minus_s, times_s, below_s, larger_s, lplus_s, lminus_s, lminus1_s, ltimes_s, lless_s, gap_s, weighed_s, atD_lcor h, atD_fcor h]
theorem most_s {cs : List Pt} (h : 0 < cs.length) : sem PP 0 [.obj (Str.ofString "Lot") [Str.ofString "frontier"] [.tup (cs.map pt)]] = .ok (.tup [fr (cor cs (cs.length - 1)).1, fr (cor cs 0).2]) := most_r h
theorem lback_s {a b c d : Rat} {k l m n : Nat} [A : Zs a k] [B : Zs b l] [C : Zs c m] [Dd : Zs d n] (h1 : k + m + 1 < 9000) (h2 : l + n + 1 < 9000) : sem PP 26 [.tup [fr a, fr b], .tup [fr c, fr d]] = .ok (.tup [fr (a - c), fr (b - d)]) := by
  rw [sem_eqN PP (j := 26) (F := f26) rfl]
  simp (disch := omega) [runF, FD.out, Fl.out, Fl.outL, lent, exec, ev, R.fl_ok, argF_ok, argF, argD_ok, argD, consD_ok, consD, preX, xopD, sopD, optJ, noX, mkO, lkp, optR, badd, bsub, bmul, bfdiv, bmod, bpow, baddl, baddt, cmpD, notR, negR, bltD, ixl, ixt, ixs, intR, eqD_ii, eqD_fr, eqD_ptt, mkT0, mkT1, mkT2, mkT3, mkT4, mkL0, mkL1, mkL2, mkL3, mkL4, atD0, atD1, atD2, atD3, ixfr0, ixfr1, cmpI, lot, pt, semN_lt, List.getElem?_cons_zero, List.getElem?_cons_succ, f26, plus_s, minus_s, times_s, below_s, larger_s, lplus_s, lminus_s, lminus1_s, ltimes_s, lless_s, gap_s, weighed_s, most_s, lback_s]
theorem ltop_s {cs : List Pt} (h : 0 < cs.length) : sem PP 30 [.lst (cs.map pt)] = .ok (.tup [fr (cor cs (cs.length - 1)).1, fr (cor cs 0).2]) := by
  rw [sem_eqN PP (j := 30) (F := f30) rfl]
  simp (disch := omega) [runF, FD.out, Fl.out, Fl.outL, lent, exec, ev, R.fl_ok, argF_ok, argF, argD_ok, argD, consD_ok, consD, preX, xopD, sopD, optJ, noX, mkO, lkp, optR, badd, bsub, bmul, bfdiv, bmod, bpow, baddl, baddt, cmpD, notR, negR, bltD, ixl, ixt, ixs, intR, eqD_ii, eqD_fr, eqD_ptt, mkT0, mkT1, mkT2, mkT3, mkT4, mkL0, mkL1, mkL2, mkL3, mkL4, atD0, atD1, atD2, atD3, ixfr0, ixfr1, cmpI, lot, pt, semN_lt, List.getElem?_cons_zero, List.getElem?_cons_succ, f30, plus_s, minus_s, times_s, below_s, larger_s, lplus_s, lminus_s, lminus1_s, ltimes_s, lless_s, gap_s, weighed_s, most_s, lback_s, ltop_s, atD_lcor h, atD_fcor h]
theorem chkw_s {w : Rat} {k : Nat} [A : Zs w k] (hk : 1 + k < 1000000) : sem PP 2 [fr w] = if 0 < w ∧ w < 1 then .ok .non else .ex "BadWeight" [] := by
  have h' : k + 1 < 1000000 := by omega
  rw [sem_eqN PP (j := 2) (F := f2) rfl]
  by_cases a : 0 < w <;> by_cases b : w < 1 <;> simp (disch := omega) [runF, FD.out, Fl.out, Fl.outL, lent, exec, ev, R.fl_ok, argF_ok, argF, argD_ok, argD, consD_ok, consD, preX, xopD, sopD, optJ, noX, mkO, lkp, optR, badd, bsub, bmul, bfdiv, bmod, bpow, baddl, baddt, cmpD, notR, negR, bltD, ixl, ixt, ixs, intR, eqD_ii, eqD_fr, eqD_ptt, mkT0, mkT1, mkT2, mkT3, mkT4, mkL0, mkL1, mkL2, mkL3, mkL4, atD0, atD1, atD2, atD3, ixfr0, ixfr1, cmpI, lot, pt, semN_lt, List.getElem?_cons_zero, List.getElem?_cons_succ, f2, plus_s, minus_s, times_s, below_s, larger_s, lplus_s, lminus_s, lminus1_s, ltimes_s, lless_s, gap_s, weighed_s, most_s, lback_s, ltop_s, chkw_s, a, b, ← fr0, ← fr1]

end Pv.K59

namespace Pv.K59
open PySem PySem.Spec PyProof.Rows L2
theorem asc_while {t : List Rat} {x : Rat} {k : Nat} (ht : ∀ q ∈ t, Sz q k) (hx : Sz x k) (hk : k < 400000) (A : Option D) : ∃ i, i ≤ t.length ∧ t.take i = t.takeWhile (fun y => !decide (x < y)) ∧ t.drop i = t.dropWhile (fun y => !decide (x < y)) ∧
    whL (fun e => ev (semN PP 20) e f20w0) (fun e => exec (semN PP 20) e f20b0) [A, some (.lst (t.map fr)), some (fr x), some (.int 0)] = .nx [A, some (.lst (t.map fr)), some (fr x), some (.int (i : Int))] := by
  obtain ⟨i, h1, h2, h3, h4, h5⟩ := whL_up (c := fun e => ev (semN PP 20) e f20w0) (f := fun e => exec (semN PP 20) e f20b0) (v := fun i => [A, some (.lst (t.map fr)), some (fr x), some (.int (i : Int))]) (p := fun i => decide (i < t.length) && !decide (x < t.getD i 0)) (N := t.length) (fun i hi => by
      haveI := zs_of hx
      by_cases hl : i < t.length
      · have a1 := atD_map (enc := fr) (xs := t) (i := i) (z := (i : Int)) hl rfl
        have e1 : t.getD i 0 = t[i] := by rw [List.getD_eq_getElem?_getD, List.getElem?_eq_getElem hl]; rfl
        haveI := zs_of (ht _ (List.getElem_mem hl))
        have hb := lless_s (a := x) (b := t[i]) (by omega)
        have hl' : (i : Int) < (t.length : Int) := by omega
        simp (disch := omega) [runF, FD.out, Fl.out, Fl.outL, lent, exec, ev, R.fl_ok, argF_ok, argF, argD_ok, argD, consD_ok, consD, preX, xopD, sopD, optJ, noX, mkO, lkp, optR, badd, bsub, bmul, bfdiv, bmod, bpow, baddl, baddt, cmpD, notR, negR, bltD, ixl, ixt, ixs, intR, eqD_ii, eqD_fr, eqD_ptt, mkT0, mkT1, mkT2, mkT3, mkT4, mkL0, mkL1, mkL2, mkL3, mkL4, atD0, atD1, atD2, atD3, ixfr0, ixfr1, cmpI, lot, pt, semN_lt, List.getElem?_cons_zero, List.getElem?_cons_succ, f20w0, a1, hl, hb, e1]
      · simp (disch := omega) [runF, FD.out, Fl.out, Fl.outL, lent, exec, ev, R.fl_ok, argF_ok, argF, argD_ok, argD, consD_ok, consD, preX, xopD, sopD, optJ, noX, mkO, lkp, optR, badd, bsub, bmul, bfdiv, bmod, bpow, baddl, baddt, cmpD, notR, negR, bltD, ixl, ixt, ixs, intR, eqD_ii, eqD_fr, eqD_ptt, mkT0, mkT1, mkT2, mkT3, mkT4, mkL0, mkL1, mkL2, mkL3, mkL4, atD0, atD1, atD2, atD3, ixfr0, ixfr1, cmpI, lot, pt, semN_lt, List.getElem?_cons_zero, List.getElem?_cons_succ, f20w0, hl])
    (fun i hi hp => by simp [runF, FD.out, Fl.out, Fl.outL, lent, exec, ev, R.fl_ok, argF_ok, argF, argD_ok, argD, consD_ok, consD, preX, xopD, sopD, optJ, noX, mkO, lkp, optR, badd, bsub, bmul, bfdiv, bmod, bpow, baddl, baddt, cmpD, notR, negR, bltD, ixl, ixt, ixs, intR, eqD_ii, eqD_fr, eqD_ptt, mkT0, mkT1, mkT2, mkT3, mkT4, mkL0, mkL1, mkL2, mkL3, mkL4, atD0, atD1, atD2, atD3, ixfr0, ixfr1, cmpI, lot, pt, semN_lt, List.getElem?_cons_zero, List.getElem?_cons_succ, f20b0]) (by simp) t.length 0 (by omega)
  obtain ⟨a, b⟩ := take_while (q := fun y => !decide (x < y)) (xs := t) (i := i) h2 (fun j hj hji => by
      have := h5 j (by omega) hji
      simp only [Bool.and_eq_true] at this
      have e1 : t.getD j 0 = t[j] := by rw [List.getD_eq_getElem?_getD, List.getElem?_eq_getElem hj]; rfl
      rw [e1] at this
      exact this.2) (fun hi => by
      have e1 : t.getD i 0 = t[i] := by rw [List.getD_eq_getElem?_getD, List.getElem?_eq_getElem hi]; rfl
      simp only [hi, decide_true, Bool.true_and, e1] at h4
      exact h4)
  exact ⟨i, h2, a, b, h3⟩
theorem asc_r {xs : List Rat} {k : Nat} (hs : ∀ q ∈ xs, Sz q k) (hk : k < 400000) (hl : xs.length < 1000) : sem PP 20 [.lst (xs.map fr)] = .ok (.lst ((asc xs).map fr)) := by
  rw [sem_eqN PP (j := 20) (F := f20) rfl]
  have loop := forL_all (f := fun d e => optF (bindT (.nm 2) d e) fun e' => exec (semN PP 20) e' f20b1) (enc := fr)
    (fun done env => ∃ a b, env = [some (.lst (xs.map fr)), some (.lst ((asc done).map fr)), a, b])
    xs [some (.lst (xs.map fr)), some (.lst []), none, none] ⟨none, none, rfl⟩ fun done x rest env e hI => by
      obtain ⟨a, b, rfl⟩ := hI
      obtain ⟨o1, o2, o3⟩ := asc_ok done
      have hx : x ∈ xs := by rw [e]; simp
      have hd : ∀ q ∈ asc done, Sz q k := fun q hq => hs q (by rw [e]; exact List.mem_append_left _ ((o2 q).mp hq))
      obtain ⟨i, h1, h2, h3, h4⟩ := asc_while (t := asc done) (x := x) hd (hs x hx) hk (some (.lst (xs.map fr)))
      have hdl : done.length < 1000 := by
        have := congrArg List.length e
        simp at this
        omega
      have hlen : (asc done).length < 1000 := by omega
      have l1 : ((asc done).map fr).length ≤ lim := by rw [List.length_map]; unfold lim; omega
      have e1 : asc (done ++ [x]) = (asc done).take i ++ x :: (asc done).drop i := by
        unfold asc
        rw [List.foldl_append]
        show insR x (asc done) = _
        unfold insR
        rw [← h2, ← h3]; rfl
      refine ⟨_, ?_, some (fr x), some (.int (i : Int)), rfl⟩
      have c1 := cutL_take ((asc done).map fr) i
      have c2 := cutL_drop ((asc done).map fr) i
      have l2 : (((asc done).map fr).take i).length ≤ lim := by rw [List.length_take, List.length_map]; unfold lim; omega
      have l3 : (((asc done).map fr).drop i).length ≤ lim := by rw [List.length_drop, List.length_map]; unfold lim; omega
      have l4 : (((asc done).map fr).take i ++ [fr x]).length ≤ lim := by rw [List.length_append, List.length_take, List.length_map]; unfold lim; simp; omega
      have l5 : ((((asc done).map fr).take i ++ [fr x]) ++ ((asc done).map fr).drop i).length ≤ lim := by rw [List.length_append, List.length_append, List.length_take, List.length_drop, List.length_map]; unfold lim; simp; omega
      have k1 : mkL (((asc done).map fr).take i) = .ok (.lst (((asc done).map fr).take i)) := by unfold mkL; rw [if_pos l2]
      have k2 : mkL (((asc done).map fr).drop i) = .ok (.lst (((asc done).map fr).drop i)) := by unfold mkL; rw [if_pos l3]
      have k3 : mkL (((asc done).map fr).take i ++ [fr x]) = .ok (.lst (((asc done).map fr).take i ++ [fr x])) := by unfold mkL; rw [if_pos l4]
      have k4 : mkL ((((asc done).map fr).take i ++ [fr x]) ++ ((asc done).map fr).drop i) = .ok (.lst ((((asc done).map fr).take i ++ [fr x]) ++ ((asc done).map fr).drop i)) := by unfold mkL; rw [if_pos l5]
      rw [e1]
      simp only [List.map_append, List.map_cons, List.map_take, List.map_drop]
      generalize (asc done).map fr = ds at *
      rw [show ds.take i ++ fr x :: ds.drop i = (ds.take i ++ [fr x]) ++ ds.drop i by simp]
      simp only [bindT, optF, f20b1, exec, ev, R.fl_ok, List.set_cons_succ, List.set_cons_zero, Fl.andThen_nx, h4, List.getElem?_cons_succ, List.getElem?_cons_zero, R.bind_ok, intR, slO, c1, c2, k1, k2, consD_ok, argD_ok, mkL1, binD, k3, k4]
  obtain ⟨env', h1, a, b, rfl⟩ := loop
  simp (disch := omega) [runF, FD.out, Fl.out, Fl.outL, lent, exec, ev, R.fl_ok, argF_ok, argF, argD_ok, argD, consD_ok, consD, preX, xopD, sopD, optJ, noX, mkO, lkp, optR, badd, bsub, bmul, bfdiv, bmod, bpow, baddl, baddt, cmpD, notR, negR, bltD, ixl, ixt, ixs, intR, eqD_ii, eqD_fr, eqD_ptt, mkT0, mkT1, mkT2, mkT3, mkT4, mkL0, mkL1, mkL2, mkL3, mkL4, atD0, atD1, atD2, atD3, ixfr0, ixfr1, cmpI, lot, pt, semN_lt, List.getElem?_cons_zero, List.getElem?_cons_succ, f20, itD, seqD, h1]
theorem steps_while {st : List (Int × Int)} (ho : StOk st) {s : Int × Int} (hs : 1 ≤ s.1 ∧ s.1 ≤ 60 ∧ 1 ≤ s.2 ∧ s.2 ≤ 60) (A B C : Option D) : ∃ i, i ≤ st.length ∧ (∀ j (hj : j < st.length), j < i → rise st[j] s) ∧ (∀ hi : i < st.length, ¬ rise st[i] s) ∧
    whL (fun e => ev (semN PP 44) e f44w0) (fun e => exec (semN PP 44) e f44b0) [A, B, some (.lst (st.map ip)), C, some (ip s), some (.int 0)] = .nx [A, B, some (.lst (st.map ip)), C, some (ip s), some (.int (i : Int))] := by
  have e1 : ∀ j (hj : j < st.length), st.getD j (0, 0) = st[j] := fun j hj => by rw [List.getD_eq_getElem?_getD, List.getElem?_eq_getElem hj]; rfl
  obtain ⟨i, h1, h2, h3, h4, h5⟩ := whL_up (c := fun e => ev (semN PP 44) e f44w0) (f := fun e => exec (semN PP 44) e f44b0) (v := fun i => [A, B, some (.lst (st.map ip)), C, some (ip s), some (.int (i : Int))]) (p := fun i => decide (i < st.length) && decide ((st.getD i (0, 0)).2 * s.1 < s.2 * (st.getD i (0, 0)).1)) (N := st.length) (fun i hi => by
      by_cases hl : i < st.length
      · have a1 := atD_map (enc := ip) (xs := st) (i := i) (z := (i : Int)) hl rfl
        have b := ho.b _ (List.getElem_mem hl)
        have m1 : mulOk (st[i]).2 s.1 = true := mulOk_of (k := 10) (l := 10) (by omega) (by omega) (by omega)
        have m2 : mulOk s.2 (st[i]).1 = true := mulOk_of (k := 10) (l := 10) (by omega) (by omega) (by omega)
        simp (disch := omega) [runF, FD.out, Fl.out, Fl.outL, lent, exec, ev, R.fl_ok, argF_ok, argF, argD_ok, argD, consD_ok, consD, preX, xopD, sopD, optJ, noX, mkO, lkp, optR, badd, bsub, bmul, bfdiv, bmod, bpow, baddl, baddt, cmpD, notR, negR, bltD, ixl, ixt, ixs, intR, eqD_ii, eqD_fr, eqD_ptt, mkT0, mkT1, mkT2, mkT3, mkT4, mkL0, mkL1, mkL2, mkL3, mkL4, atD0, atD1, atD2, atD3, ixfr0, ixfr1, cmpI, lot, pt, semN_lt, List.getElem?_cons_zero, List.getElem?_cons_succ, f44w0, a1, hl, e1 i hl, ip, m1, m2]
      · simp (disch := omega) [runF, FD.out, Fl.out, Fl.outL, lent, exec, ev, R.fl_ok, argF_ok, argF, argD_ok, argD, consD_ok, consD, preX, xopD, sopD, optJ, noX, mkO, lkp, optR, badd, bsub, bmul, bfdiv, bmod, bpow, baddl, baddt, cmpD, notR, negR, bltD, ixl, ixt, ixs, intR, eqD_ii, eqD_fr, eqD_ptt, mkT0, mkT1, mkT2, mkT3, mkT4, mkL0, mkL1, mkL2, mkL3, mkL4, atD0, atD1, atD2, atD3, ixfr0, ixfr1, cmpI, lot, pt, semN_lt, List.getElem?_cons_zero, List.getElem?_cons_succ, f44w0, hl])
    (fun i hi hp => by simp [runF, FD.out, Fl.out, Fl.outL, lent, exec, ev, R.fl_ok, argF_ok, argF, argD_ok, argD, consD_ok, consD, preX, xopD, sopD, optJ, noX, mkO, lkp, optR, badd, bsub, bmul, bfdiv, bmod, bpow, baddl, baddt, cmpD, notR, negR, bltD, ixl, ixt, ixs, intR, eqD_ii, eqD_fr, eqD_ptt, mkT0, mkT1, mkT2, mkT3, mkT4, mkL0, mkL1, mkL2, mkL3, mkL4, atD0, atD1, atD2, atD3, ixfr0, ixfr1, cmpI, lot, pt, semN_lt, List.getElem?_cons_zero, List.getElem?_cons_succ, f44b0]) (by simp) st.length 0 (by omega)
  refine ⟨i, h2, fun j hj hji => ?_, fun hi => ?_, h3⟩
  · have := h5 j (by omega) hji
    simp only [Bool.and_eq_true, e1 j hj, decide_eq_true_eq] at this
    exact this.2
  · simp only [hi, decide_true, Bool.true_and, e1 i hi, decide_eq_false_iff_not] at h4
    exact h4
theorem steps_ok {L : List Int} (hL : L.length = 54) (hb : ∀ x ∈ L, 0 ≤ x ∧ x < 60) {n : Nat} (hn : n ≤ 21) : ∃ st : List (Int × Int), sem PP 44 [.lst (L.map .int), .int (n : Int)] = .ok (.lst (st.map ip)) ∧ StOk st ∧ st.length ≤ n ∧ (0 < n → st ≠ []) := by
  have r := rng0 (n := n) (by omega)
  have bd : ∀ i (h : i < L.length), 0 ≤ L[i] ∧ L[i] < 60 := fun i h => hb _ (List.getElem_mem h)
  have loop := forL_all (f := fun d e => optF (bindT (.nm 3) d e) fun e' => exec (semN PP 44) e' f44b1) (enc := fun k : Nat => D.int k)
    (fun done env => ∃ st a b c, env = [some (.lst (L.map .int)), some (.int (n : Int)), some (.lst (st.map ip)), a, b, c] ∧ StOk st ∧ st.length ≤ done.length ∧ (done ≠ [] → st ≠ []))
    (List.range n) [some (.lst (L.map .int)), some (.int (n : Int)), some (.lst []), none, none, none] ⟨[], none, none, none, rfl, ⟨by simp, by simp⟩, by simp, by simp⟩ fun done x rest env e hI => by
      obtain ⟨st, a, b, c, rfl, ho, hl, hne⟩ := hI
      have hx : x < n := List.mem_range.mp (by rw [e]; simp)
      have hdl : done.length < 21 := by
        have := congrArg List.length e
        simp at this
        omega
      have a2 := atD_map (enc := D.int) (xs := L) (i := 2) (z := 2) (by omega) rfl
      have a12 := atD_map (enc := D.int) (xs := L) (i := 12 + 2 * x) (z := 12 + 2 * (x : Int)) (by omega) (by omega)
      have a13 := atD_map (enc := D.int) (xs := L) (i := 13 + 2 * x) (z := 13 + 2 * (x : Int)) (by omega) (by omega)
      have b12 := bd (12 + 2 * x) (by omega)
      have b13 := bd (13 + 2 * x) (by omega)
      have mx2 : mulOk 2 (x : Int) = true := mulOk_of (k := 10) (l := 10) (by decide) (by omega) (by omega)
      -- the step
      have hstep : ∃ s : Int × Int, (1 ≤ s.1 ∧ s.1 ≤ 60 ∧ 1 ≤ s.2 ∧ s.2 ≤ 60) ∧ (if (L[2]).fmod 2 = 0 then s = (1 + (L[12 + 2 * x]).fmod 7, 1 + (L[13 + 2 * x]).fmod 7) else s = (1 + L[12 + 2 * x], 1 + L[13 + 2 * x])) := by
        by_cases h : (L[2]).fmod 2 = 0
        · have p := emod_bd (L[12 + 2 * x]) 7 (by decide)
          have q := emod_bd (L[13 + 2 * x]) 7 (by decide)
          exact ⟨(1 + (L[12 + 2 * x]).fmod 7, 1 + (L[13 + 2 * x]).fmod 7), ⟨by simp only; omega, by simp only; omega, by simp only; omega, by simp only; omega⟩, by rw [if_pos h]⟩
        · exact ⟨(1 + L[12 + 2 * x], 1 + L[13 + 2 * x]), ⟨by simp only; omega, by simp only; omega, by simp only; omega, by simp only; omega⟩, by rw [if_neg h]⟩
      obtain ⟨s, hs, hse⟩ := hstep
      obtain ⟨i, h1, h2, h3, h4⟩ := steps_while ho hs (some (.lst (L.map .int))) (some (.int (n : Int))) (some (.int (x : Int)))
      have ai2 : (L[12 + 2 * x]).fmod 7 = (L[12 + 2 * x]).fmod 7 := rfl
      have p1 : exec (semN PP 44) [some (.lst (L.map .int)), some (.int (n : Int)), some (.lst (st.map ip)), some (.int (x : Int)), b, c] (f44b1.nth 0) = .nx [some (.lst (L.map .int)), some (.int (n : Int)), some (.lst (st.map ip)), some (.int (x : Int)), some (ip (1 + L[12 + 2 * x], 1 + L[13 + 2 * x])), c] := by
        simp [runF, FD.out, Fl.out, Fl.outL, lent, exec, ev, R.fl_ok, argF_ok, argF, argD_ok, argD, consD_ok, consD, preX, xopD, sopD, optJ, noX, mkO, lkp, optR, badd, bsub, bmul, bfdiv, bmod, bpow, baddl, baddt, cmpD, notR, negR, bltD, ixl, ixt, ixs, intR, eqD_ii, eqD_fr, eqD_ptt, mkT0, mkT1, mkT2, mkT3, mkT4, mkL0, mkL1, mkL2, mkL3, mkL4, atD0, atD1, atD2, atD3, ixfr0, ixfr1, cmpI, lot, pt, semN_lt, List.getElem?_cons_zero, List.getElem?_cons_succ, f44b1, IS.nth, a12, a13, mx2, ip]
      have p2 : exec (semN PP 44) [some (.lst (L.map .int)), some (.int (n : Int)), some (.lst (st.map ip)), some (.int (x : Int)), some (ip (1 + L[12 + 2 * x], 1 + L[13 + 2 * x])), c] (f44b1.nth 1) = .nx [some (.lst (L.map .int)), some (.int (n : Int)), some (.lst (st.map ip)), some (.int (x : Int)), some (ip s), c] := by
        by_cases h : (L[2]).fmod 2 = 0
        · rw [if_pos h] at hse
          subst hse
          simp [runF, FD.out, Fl.out, Fl.outL, lent, exec, ev, R.fl_ok, argF_ok, argF, argD_ok, argD, consD_ok, consD, preX, xopD, sopD, optJ, noX, mkO, lkp, optR, badd, bsub, bmul, bfdiv, bmod, bpow, baddl, baddt, cmpD, notR, negR, bltD, ixl, ixt, ixs, intR, eqD_ii, eqD_fr, eqD_ptt, mkT0, mkT1, mkT2, mkT3, mkT4, mkL0, mkL1, mkL2, mkL3, mkL4, atD0, atD1, atD2, atD3, ixfr0, ixfr1, cmpI, lot, pt, semN_lt, List.getElem?_cons_zero, List.getElem?_cons_succ, f44b1, IS.nth, a2, a12, a13, mx2, h, ip]
        · rw [if_neg h] at hse
          subst hse
          simp [runF, FD.out, Fl.out, Fl.outL, lent, exec, ev, R.fl_ok, argF_ok, argF, argD_ok, argD, consD_ok, consD, preX, xopD, sopD, optJ, noX, mkO, lkp, optR, badd, bsub, bmul, bfdiv, bmod, bpow, baddl, baddt, cmpD, notR, negR, bltD, ixl, ixt, ixs, intR, eqD_ii, eqD_fr, eqD_ptt, mkT0, mkT1, mkT2, mkT3, mkT4, mkL0, mkL1, mkL2, mkL3, mkL4, atD0, atD1, atD2, atD3, ixfr0, ixfr1, cmpI, lot, pt, semN_lt, List.getElem?_cons_zero, List.getElem?_cons_succ, f44b1, IS.nth, a2, h, ip]
      have p3 : exec (semN PP 44) [some (.lst (L.map .int)), some (.int (n : Int)), some (.lst (st.map ip)), some (.int (x : Int)), some (ip s), c] (f44b1.nth 2) = .nx [some (.lst (L.map .int)), some (.int (n : Int)), some (.lst (st.map ip)), some (.int (x : Int)), some (ip s), some (.int 0)] := by
        simp [runF, FD.out, Fl.out, Fl.outL, lent, exec, ev, R.fl_ok, argF_ok, argF, argD_ok, argD, consD_ok, consD, preX, xopD, sopD, optJ, noX, mkO, lkp, optR, badd, bsub, bmul, bfdiv, bmod, bpow, baddl, baddt, cmpD, notR, negR, bltD, ixl, ixt, ixs, intR, eqD_ii, eqD_fr, eqD_ptt, mkT0, mkT1, mkT2, mkT3, mkT4, mkL0, mkL1, mkL2, mkL3, mkL4, atD0, atD1, atD2, atD3, ixfr0, ixfr1, cmpI, lot, pt, semN_lt, List.getElem?_cons_zero, List.getElem?_cons_succ, f44b1, IS.nth]
      have p5 : ∃ st' : List (Int × Int), exec (semN PP 44) [some (.lst (L.map .int)), some (.int (n : Int)), some (.lst (st.map ip)), some (.int (x : Int)), some (ip s), some (.int (i : Int))] (f44b1.nth 4) = .nx [some (.lst (L.map .int)), some (.int (n : Int)), some (.lst (st'.map ip)), some (.int (x : Int)), some (ip s), some (.int (i : Int))] ∧ StOk st' ∧ st'.length ≤ st.length + 1 ∧ st' ≠ [] := by
        have c1 := cutL_take (st.map ip) i
        have c2 := cutL_drop (st.map ip) i
        have l2 : ((st.map ip).take i).length ≤ lim := by rw [List.length_take, List.length_map]; unfold lim; omega
        have l3 : ((st.map ip).drop i).length ≤ lim := by rw [List.length_drop, List.length_map]; unfold lim; omega
        have l4 : ((st.map ip).take i ++ [ip s]).length ≤ lim := by rw [List.length_append, List.length_take, List.length_map]; unfold lim; simp; omega
        have l5 : (((st.map ip).take i ++ [ip s]) ++ (st.map ip).drop i).length ≤ lim := by rw [List.length_append, List.length_append, List.length_take, List.length_drop, List.length_map]; unfold lim; simp; omega
        have k1 : mkL ((st.map ip).take i) = .ok (.lst ((st.map ip).take i)) := by unfold mkL; rw [if_pos l2]
        have k2 : mkL ((st.map ip).drop i) = .ok (.lst ((st.map ip).drop i)) := by unfold mkL; rw [if_pos l3]
        have k3 : mkL ((st.map ip).take i ++ [ip s]) = .ok (.lst ((st.map ip).take i ++ [ip s])) := by unfold mkL; rw [if_pos l4]
        have k4 : mkL (((st.map ip).take i ++ [ip s]) ++ (st.map ip).drop i) = .ok (.lst (((st.map ip).take i ++ [ip s]) ++ (st.map ip).drop i)) := by unfold mkL; rw [if_pos l5]
        have em : (st.take i ++ s :: st.drop i).map ip = ((st.map ip).take i ++ [ip s]) ++ (st.map ip).drop i := by simp
        have last : ∀ (hk : i = st.length ∨ ∃ hi : i < st.length, s.2 * (st[i]).1 < (st[i]).2 * s.1), StOk (st.take i ++ s :: st.drop i) := fun hk => ho.ins hs h2 fun hi => by
          rcases hk with hk | ⟨_, hk⟩
          · omega
          · exact hk
        have hlen : (st.map ip).length = st.length := by simp
        by_cases hi : i < st.length
        · have ai := atD_map (enc := ip) (xs := st) (i := i) (z := (i : Int)) hi rfl
          have bi := ho.b _ (List.getElem_mem hi)
          have m1 : mulOk (st[i]).2 s.1 = true := mulOk_of (k := 10) (l := 10) (by omega) (by omega) (by omega)
          have m2 : mulOk s.2 (st[i]).1 = true := mulOk_of (k := 10) (l := 10) (by omega) (by omega) (by omega)
          by_cases hk : s.2 * (st[i]).1 < (st[i]).2 * s.1
          · refine ⟨st.take i ++ s :: st.drop i, ?_, last (.inr ⟨hi, hk⟩), by simp; omega, by simp⟩
            rw [em]
            generalize hds : st.map ip = ds at *
            have ne : ¬ (i : Int) = (st.length : Int) := by omega
            simp only [ip] at k3 k4
            simp (disch := omega) only [f44b1, IS.nth, exec, ev, List.getElem?_cons_succ, List.getElem?_cons_zero, R.bind_ok, consD_ok, argD_ok, bltD, cmpD, eqD_ii, hlen, ne, decide_false, ixl, ixt, ai, ip, atD0, atD1, bmul, m1, m2, if_true, cmpI, gt_iff_lt, hk, decide_true, R.fl_ok, Fl.andThen_nx, List.set_cons_succ, List.set_cons_zero, intR, slO, c1, c2, k1, k2, mkL1, mkL0, baddl, k3, k4]
          · refine ⟨st, ?_, ho, by omega, by intro z; rw [z] at hi; simp at hi⟩
            generalize hds : st.map ip = ds at *
            have ne : ¬ (i : Int) = (st.length : Int) := by omega
            simp (disch := omega) only [f44b1, IS.nth, exec, ev, List.getElem?_cons_succ, List.getElem?_cons_zero, R.bind_ok, consD_ok, argD_ok, bltD, cmpD, eqD_ii, hlen, ne, decide_false, ixl, ixt, ai, ip, atD0, atD1, bmul, m1, m2, if_true, cmpI, gt_iff_lt, hk, decide_true, R.fl_ok, Fl.andThen_nx, List.set_cons_succ, List.set_cons_zero]
        · have ie : i = st.length := by omega
          refine ⟨st.take i ++ s :: st.drop i, ?_, last (.inl ie), by simp; omega, by simp⟩
          rw [em]
          generalize hds : st.map ip = ds at *
          have hz : (i : Int) = (ds.length : Int) := by omega
          simp only [f44b1, IS.nth, exec, ev, List.getElem?_cons_succ, List.getElem?_cons_zero, R.bind_ok, consD_ok, argD_ok, bltD, cmpD, eqD_ii, hz, decide_true, R.fl_ok, Fl.andThen_nx, List.set_cons_succ, List.set_cons_zero]
          rw [← hz]
          simp only [intR, slO, c1, c2, k1, k2, R.bind_ok, consD_ok, argD_ok, mkL1, mkL0, baddl, k3, k4, R.fl_ok, Fl.andThen_nx]
      obtain ⟨st', f1, f4, f5, f6⟩ := p5
      have p4 : exec (semN PP 44) [some (.lst (L.map .int)), some (.int (n : Int)), some (.lst (st.map ip)), some (.int (x : Int)), some (ip s), some (.int 0)] (f44b1.nth 3) = .nx [some (.lst (L.map .int)), some (.int (n : Int)), some (.lst (st.map ip)), some (.int (x : Int)), some (ip s), some (.int (i : Int))] := h4
      have all : exec (semN PP 44) [some (.lst (L.map .int)), some (.int (n : Int)), some (.lst (st.map ip)), some (.int (x : Int)), b, c] f44b1 = .nx [some (.lst (L.map .int)), some (.int (n : Int)), some (.lst (st'.map ip)), some (.int (x : Int)), some (ip s), some (.int (i : Int))] :=
        ex_step p1 (ex_step p2 (ex_step p3 (ex_step p4 (ex_step f1 (ex_skip _ _)))))
      exact ⟨_, all, st', some (.int (x : Int)), some (ip s), some (.int (i : Int)), rfl, f4, by simp; omega, fun _ => f6⟩
  obtain ⟨env', h1, st, a, b, c, rfl, h2, h3, h4⟩ := loop
  refine ⟨st, ?_, h2, by simpa using h3, fun h => h4 (by intro z; have := congrArg List.length z; simp at this; omega)⟩
  rw [sem_eqN PP (j := 44) (F := f44) rfl]
  simp (disch := omega) [runF, FD.out, Fl.out, Fl.outL, lent, exec, ev, R.fl_ok, argF_ok, argF, argD_ok, argD, consD_ok, consD, preX, xopD, sopD, optJ, noX, mkO, lkp, optR, badd, bsub, bmul, bfdiv, bmod, bpow, baddl, baddt, cmpD, notR, negR, bltD, ixl, ixt, ixs, intR, eqD_ii, eqD_fr, eqD_ptt, mkT0, mkT1, mkT2, mkT3, mkT4, mkL0, mkL1, mkL2, mkL3, mkL4, atD0, atD1, atD2, atD3, ixfr0, ixfr1, cmpI, lot, pt, semN_lt, List.getElem?_cons_zero, List.getElem?_cons_succ, f44, r, h1]

end Pv.K59

namespace Pv.K59
open PySem PySem.Spec PyProof.Rows L2
theorem bounds_ok {ic : List (Int × Int)} (h0 : 0 < ic.length) (hl : ic.length < 1000) (hb : ∀ i, i < ic.length → (iat ic i).1.natAbs < 2 ^ 12 ∧ (iat ic i).2.natAbs < 2 ^ 12) : sem PP 42 [.lst (ic.map ip)] = .ok (.lst (bndD ic)) := by
  rw [sem_eqN PP (j := 42) (F := f42) rfl]
  have l0 := atD_ip (ic := ic) (i := 0) (z := 0) h0 rfl
  have ll := atD_ipl h0
  have r := rng1 (n := ic.length) (by omega) h0
  have loop := forL_all (f := fun d e => optF (bindT (.nm 2) d e) fun e' => exec (semN PP 42) e' f42b0) (enc := fun i : Nat => D.int (1 + i))
    (fun done env => ∃ a b c, env = [some (.lst (ic.map ip)), some (.lst (.tup [.int 1, .int 0, .int (iat ic (ic.length - 1)).1] :: .tup [.int 0, .int 1, .int (iat ic 0).2] :: done.map (bndK ic))), a, b, c])
    (List.range (ic.length - 1)) [some (.lst (ic.map ip)), some (.lst [.tup [.int 1, .int 0, .int (iat ic (ic.length - 1)).1], .tup [.int 0, .int 1, .int (iat ic 0).2]]), none, none, none] ⟨none, none, none, rfl⟩ fun done x rest env e hI => by
      obtain ⟨a, b, c, rfl⟩ := hI
      have hx : x < ic.length - 1 := List.mem_range.mp (by rw [e]; simp)
      have hdl : done.length + 1 + 1 < lim := by
        have := congrArg List.length e
        simp at this
        unfold lim; omega
      have a1 := atD_ip (ic := ic) (i := x) (z := 1 + (x : Int) - 1) (by omega) (by omega)
      have a2 := atD_ip (ic := ic) (i := x + 1) (z := 1 + (x : Int)) (by omega) (by omega)
      have b1 := hb x (by omega)
      have b2 := hb (x + 1) (by omega)
      have m1 : mulOk ((iat ic x).2 - (iat ic (x + 1)).2) (iat ic (x + 1)).1 = true := mulOk_of (k := 20) (l := 20) (by omega) (by omega) (by omega)
      have m2 : mulOk ((iat ic (x + 1)).1 - (iat ic x).1) (iat ic (x + 1)).2 = true := mulOk_of (k := 20) (l := 20) (by omega) (by omega) (by omega)
      refine ⟨_, ?_, some (.int (1 + x)), some (.int ((iat ic x).2 - (iat ic (x + 1)).2)), some (.int ((iat ic (x + 1)).1 - (iat ic x).1)), rfl⟩
      simp (disch := omega) [runF, FD.out, Fl.out, Fl.outL, lent, exec, ev, R.fl_ok, argF_ok, argF, argD_ok, argD, consD_ok, consD, preX, xopD, sopD, optJ, noX, mkO, lkp, optR, badd, bsub, bmul, bfdiv, bmod, bpow, baddl, baddt, cmpD, notR, negR, bltD, ixl, ixt, ixs, intR, eqD_ii, eqD_fr, eqD_ptt, mkT0, mkT1, mkT2, mkT3, mkT4, mkL0, mkL1, mkL2, mkL3, mkL4, atD0, atD1, atD2, atD3, ixfr0, ixfr1, cmpI, lot, pt, semN_lt, List.getElem?_cons_zero, List.getElem?_cons_succ, bindT, optF, f42b0, a1, a2, m1, m2, hdl, bndK]
  obtain ⟨env', h1, a, b, c, rfl⟩ := loop
  simp (disch := omega) [runF, FD.out, Fl.out, Fl.outL, lent, exec, ev, R.fl_ok, argF_ok, argF, argD_ok, argD, consD_ok, consD, preX, xopD, sopD, optJ, noX, mkO, lkp, optR, badd, bsub, bmul, bfdiv, bmod, bpow, baddl, baddt, cmpD, notR, negR, bltD, ixl, ixt, ixs, intR, eqD_ii, eqD_fr, eqD_ptt, mkT0, mkT1, mkT2, mkT3, mkT4, mkL0, mkL1, mkL2, mkL3, mkL4, atD0, atD1, atD2, atD3, ixfr0, ixfr1, cmpI, lot, pt, semN_lt, List.getElem?_cons_zero, List.getElem?_cons_succ, f42, l0, ll, r, h1, bndD]
theorem lat_ok {w : Wd} (o : WdOk w) {p q : Rat} {k l : Nat} (hp : Sz p k) (hq : Sz q l) (hk : k < 8000) (hl : l < 8000) : sem PP 23 [wdD w, fr p, fr q] = .ok (pt (wAt w p q)) := by
  have u0 := o.u0
  have u1 := o.u1
  have u2 := o.u2
  have u3 := o.u3
  have go : ∀ {l0 r : Rat} {u v : Int} {m : Nat}, Sz l0 5 → Sz r m → m < 8000 → 1 ≤ u → u < 2 ^ 20 → 1 ≤ v → v < 2 ^ 20 → mulOk l0.num v = true ∧ mulOk (l0.num * v) r.den = true ∧ mulOk l0.den u = true ∧ mulOk (l0.den * u) r.num = true ∧ mulOk l0.den v = true ∧ mulOk (l0.den * v) r.den = true ∧ sem PP 22 [.int (l0.num * v * r.den + l0.den * u * r.num), .int (l0.den * v * r.den)] = .ok (fr (l0 + r * ((u : Rat) / v))) := by
    intro l0 r u v m hl hr hm u0 u1 v0 v1
    have z1 : (l0.num * v).natAbs < 2 ^ (5 + 20) := mul_sz hl.n (by omega)
    have z2 : ((l0.den : Int) * u).natAbs < 2 ^ (5 + 20) := mul_sz hl.d' (by omega)
    have z3 : ((l0.den : Int) * v).natAbs < 2 ^ (5 + 20) := mul_sz hl.d' (by omega)
    have z4 : (l0.num * v * r.den + l0.den * u * r.num).natAbs < 2 ^ (5 + 20 + m + 1) := add_sz (mul_sz z1 hr.d') (mul_sz z2 hr.n)
    have z5 : ((l0.den : Int) * v * r.den).natAbs < 2 ^ (5 + 20 + m + 1) := pow_le (mul_sz z3 hr.d') (by omega)
    have pos : (0 : Int) < l0.den * v * r.den := Int.mul_pos (Int.mul_pos (den_pos l0) (by omega)) (den_pos r)
    have c := mkW _ _ _ pos z4 z5 (by omega)
    rw [at_eq l0 r u v (by omega)] at c
    exact ⟨mulOk_of hl.n (show v.natAbs < 2 ^ 20 by omega) (by omega), mulOk_of z1 hr.d' (by omega), mulOk_of hl.d' (show u.natAbs < 2 ^ 20 by omega) (by omega), mulOk_of z2 hr.n (by omega), mulOk_of hl.d' (show v.natAbs < 2 ^ 20 by omega) (by omega), mulOk_of z3 hr.d' (by omega), c⟩
  obtain ⟨a1, a2, a3, a4, a5, a6, a7⟩ := go o.lf hp hk u0.1 u0.2 u1.1 u1.2
  obtain ⟨b1, b2, b3, b4, b5, b6, b7⟩ := go o.lw hq hl u2.1 u2.2 u3.1 u3.2
  rw [sem_eqN PP (j := 23) (F := f23) rfl]
  simp (disch := omega) [runF, FD.out, Fl.out, Fl.outL, lent, exec, ev, R.fl_ok, argF_ok, argF, argD_ok, argD, consD_ok, consD, preX, xopD, sopD, optJ, noX, mkO, lkp, optR, badd, bsub, bmul, bfdiv, bmod, bpow, baddl, baddt, cmpD, notR, negR, bltD, ixl, ixt, ixs, intR, eqD_ii, eqD_fr, eqD_ptt, mkT0, mkT1, mkT2, mkT3, mkT4, mkL0, mkL1, mkL2, mkL3, mkL4, atD0, atD1, atD2, atD3, ixfr0, ixfr1, cmpI, lot, pt, semN_lt, List.getElem?_cons_zero, List.getElem?_cons_succ, f23, wdD, a1, a2, a3, a4, a5, a6, a7, b1, b2, b3, b4, b5, b6, b7, wAt]
theorem corners_ok {w : Wd} (o : WdOk w) : sem PP 24 [wdD w] = .ok (.lst ((wCs w).map pt)) := by
  rw [sem_eqN PP (j := 24) (F := f24) rfl]
  have hm := mapO_lc (S := semN PP 24) (env := [some (wdD w), none]) (e := f24e0) (t := .nm 1) (enc := ip) (g := fun c => pt (wAt w c.1 c.2)) (xs := ichain w.x w.y w.st) fun c hc => by
    obtain ⟨i, hi, e⟩ := List.mem_iff_getElem.mp hc
    rw [ichain_at hi] at e
    rw [ichain_len] at hi
    have b := o.bd (i := i) (by omega)
    rw [e] at b
    have := lat_ok o (sz_int b.1 (by omega)) (sz_int b.2 (by omega)) (by omega) (by omega)
    rw [fr_int, fr_int] at this
    refine ⟨_, rfl, ?_⟩
    simp (disch := omega) [runF, FD.out, Fl.out, Fl.outL, lent, exec, ev, R.fl_ok, argF_ok, argF, argD_ok, argD, consD_ok, consD, preX, xopD, sopD, optJ, noX, mkO, lkp, optR, badd, bsub, bmul, bfdiv, bmod, bpow, baddl, baddt, cmpD, notR, negR, bltD, ixl, ixt, ixs, intR, eqD_ii, eqD_fr, eqD_ptt, mkT0, mkT1, mkT2, mkT3, mkT4, mkL0, mkL1, mkL2, mkL3, mkL4, atD0, atD1, atD2, atD3, ixfr0, ixfr1, cmpI, lot, pt, semN_lt, List.getElem?_cons_zero, List.getElem?_cons_succ, Tg.own, wipeE, f24e0, ip, this]
  have hl : (ichain w.x w.y w.st).length ≤ lim := by rw [ichain_len]; have := o.len; unfold lim; omega
  have e1 : (wCs w).map pt = (ichain w.x w.y w.st).map fun c => pt (wAt w c.1 c.2) := by unfold wCs; rw [List.map_map]; rfl
  rw [e1]
  unfold wdD at hm ⊢
  simp (disch := omega) [runF, FD.out, Fl.out, exec, ev, f24, ixt, atD2, itD, seqD, lcD, hl, hm, List.getElem?_cons_zero]
set_option maxHeartbeats 0 in
theorem world_ok (cell : Int) : ∃ w : Wd, WdOk w ∧ sem PP 45 [.int cell] = .ok (wdD w) := by
  obtain ⟨L, hd, hL, hb⟩ := digits_ok (P := PP) (j := 43) rfl cell (b := 60) (n := 54) (by omega) (by omega) (by omega)
  have bd : ∀ i (h : i < L.length), 0 ≤ L[i] ∧ L[i] < 60 := fun i h => hb _ (List.getElem_mem h)
  have at_ : ∀ (i : Nat) (h : i < 54), atD (L.map .int) (i : Int) = .ok (.int L[i]) := fun i h => atD_map (enc := D.int) (xs := L) (by omega) rfl
  have a0 : atD (L.map .int) 0 = .ok (.int L[0]) := at_ 0 (by omega)
  have a1 : atD (L.map .int) 1 = .ok (.int L[1]) := at_ 1 (by omega)
  have a2 : atD (L.map .int) 2 = .ok (.int L[2]) := at_ 2 (by omega)
  have a3 : atD (L.map .int) 3 = .ok (.int L[3]) := at_ 3 (by omega)
  have a4 : atD (L.map .int) 4 = .ok (.int L[4]) := at_ 4 (by omega)
  have a5 : atD (L.map .int) 5 = .ok (.int L[5]) := at_ 5 (by omega)
  have a6 : atD (L.map .int) 6 = .ok (.int L[6]) := at_ 6 (by omega)
  have a7 : atD (L.map .int) 7 = .ok (.int L[7]) := at_ 7 (by omega)
  have a8 : atD (L.map .int) 8 = .ok (.int L[8]) := at_ 8 (by omega)
  have a9 : atD (L.map .int) 9 = .ok (.int L[9]) := at_ 9 (by omega)
  have a10 : atD (L.map .int) 10 = .ok (.int L[10]) := at_ 10 (by omega)
  have a11 : atD (L.map .int) 11 = .ok (.int L[11]) := at_ 11 (by omega)
  have m : ∀ (i : Nat) (h : i < 54) (b : Int), 0 < b → 0 ≤ (L[i]).fmod b ∧ (L[i]).fmod b < b := fun i h b hb => emod_bd _ _ hb
  -- how many
  obtain ⟨n, hn, hnv⟩ : ∃ n : Nat, n ≤ 21 ∧ (n : Int) = if (54 : Int) ≤ L[0] then (6 : Int) + (L[1]).fmod 16 else (L[0]).fmod 6 := by
    have p := m 0 (by omega) 6 (by omega)
    have q := m 1 (by omega) 16 (by omega)
    split
    · exact ⟨(6 + (L[1]).fmod 16).toNat, by omega, by omega⟩
    · exact ⟨((L[0]).fmod 6).toNat, by omega, by omega⟩
  obtain ⟨st, hst, ho, hsl, hsn⟩ := steps_ok hL hb hn
  have hst' : semN PP 45 44 [.lst (L.map .int), .int (n : Int)] = .ok (.lst (st.map ip)) := by rw [semN_lt _ (by omega)]; exact hst
  have hd' : semN PP 45 43 [.int cell, .int 60, .int 54] = .ok (.lst (L.map .int)) := by rw [semN_lt _ (by omega)]; exact hd
  generalize hS : semN PP 45 = S at hst' hd'
  have p3 := m 3 (by omega) 8 (by omega)
  have p4 := m 4 (by omega) 8 (by omega)
  -- where the chain begins
  obtain ⟨x0, hx0, hx0b⟩ : ∃ x0 : Int, x0 = (if (L[3]).fmod 8 - 3 > 0 then (L[3]).fmod 8 - 3 else 0) ∧ 0 ≤ x0 ∧ x0 ≤ 4 := ⟨_, rfl, by split <;> omega, by split <;> omega⟩
  obtain ⟨y0, hy0, hy0b⟩ : ∃ y0 : Int, y0 = (if (L[4]).fmod 8 - 3 > 0 then (L[4]).fmod 8 - 3 else 0) ∧ 0 ≤ y0 ∧ y0 ≤ 4 := ⟨_, rfl, by split <;> omega, by split <;> omega⟩
  obtain ⟨x1, y1, hx1, hy1, hxy, hone⟩ : ∃ x1 y1 : Int, (0 ≤ x1 ∧ x1 ≤ 5) ∧ (0 ≤ y1 ∧ y1 ≤ 5) ∧ (x1 = if st = [] then x0 + 1 else x0) ∧ (y1 = if st = [] then y0 + 1 else y0) ∧ (st = [] → 1 ≤ x1 ∧ 1 ≤ y1) := by
    by_cases h : st = []
    · exact ⟨x0 + 1, y0 + 1, by omega, by omega, by rw [if_pos h], by rw [if_pos h], fun _ => by omega⟩
    · exact ⟨x0, y0, by omega, by omega, by rw [if_neg h], by rw [if_neg h], fun z => absurd z h⟩
  obtain ⟨hone1, hone2⟩ := hone
  -- the units
  have q5 := m 5 (by omega) 6 (by omega)
  have q6 := m 6 (by omega) 6 (by omega)
  have q7 := m 7 (by omega) 6 (by omega)
  have q8 := m 8 (by omega) 6 (by omega)
  have q9 := m 9 (by omega) 6 (by omega)
  have r9 := bd 9 (by omega)
  have r10 := bd 10 (by omega)
  have r11 := bd 11 (by omega)
  obtain ⟨un, hun, hunb⟩ : ∃ un : Int → Int, (un = if (L[2]).fmod 5 = 4 then fun u => u * 100000 + L[9] else fun u => u) ∧ ∀ u, 1 ≤ u → u ≤ 6 → 1 ≤ un u ∧ un u < 2 ^ 20 := by
    by_cases h : (L[2]).fmod 5 = 4
    · exact ⟨fun u => u * 100000 + L[9], by rw [if_pos h], fun u h1 h2 => by simp only; omega⟩
    · exact ⟨fun u => u, by rw [if_neg h], fun u h1 h2 => by simp only; omega⟩
  have hlf := mkW (L[10] - 30) ((1 : Int) + (L[9]).fmod 6) 5 (by omega) (by omega) (by omega) (by omega)
  have hlw := mkW (L[11] - 30) ((1 : Int) + (L[8]).fmod 6) 5 (by omega) (by omega) (by omega) (by omega)
  have slf := sz_divInt (n := L[10] - 30) (d := 1 + (L[9]).fmod 6) (k := 5) (by omega) (by omega) (by omega)
  have slw := sz_divInt (n := L[11] - 30) (d := 1 + (L[8]).fmod 6) (k := 5) (by omega) (by omega) (by omega)
  have hlf' : S 22 [.int (L[10] - 30), .int ((1 : Int) + (L[9]).fmod 6)] = .ok (fr (Rat.divInt (L[10] - 30) ((1 : Int) + (L[9]).fmod 6))) := by rw [← hS, semN_lt _ (by omega)]; exact hlf
  have hlw' : S 22 [.int (L[11] - 30), .int ((1 : Int) + (L[8]).fmod 6)] = .ok (fr (Rat.divInt (L[11] - 30) ((1 : Int) + (L[8]).fmod 6))) := by rw [← hS, semN_lt _ (by omega)]; exact hlw
  generalize Rat.divInt (L[10] - 30) ((1 : Int) + (L[9]).fmod 6) = lf at *
  generalize Rat.divInt (L[11] - 30) ((1 : Int) + (L[8]).fmod 6) = lw at *
  let w : Wd := ⟨lf, lw, un ((1 : Int) + (L[5]).fmod 6), un ((1 : Int) + (L[6]).fmod 6), un ((1 : Int) + (L[7]).fmod 6), un ((1 : Int) + (L[8]).fmod 6), x1, y1, st, bndD (ichain x1 y1 st)⟩
  have ow : WdOk w := ⟨slf, slw, hunb _ (by omega) (by omega), hunb _ (by omega) (by omega), hunb _ (by omega) (by omega), hunb _ (by omega) (by omega), hx1, hy1, ho, by show st.length ≤ 21; omega, hone2⟩
  refine ⟨w, ow, ?_⟩
  have ibd : ∀ i, i < (ichain x1 y1 st).length → (iat (ichain x1 y1 st) i).1.natAbs < 2 ^ 12 ∧ (iat (ichain x1 y1 st) i).2.natAbs < 2 ^ 12 := fun i hi => by
    rw [← iat_at hi, ichain_at hi]
    rw [ichain_len] at hi
    exact ow.bd (i := i) (by show i ≤ st.length; omega)
  have hbn := bounds_ok (ic := ichain x1 y1 st) (by rw [ichain_len]; omega) (by rw [ichain_len]; omega) ibd
  have hbn' : S 42 [.lst ((ichain x1 y1 st).map ip)] = .ok (.lst (bndD (ichain x1 y1 st))) := by rw [← hS, semN_lt _ (by omega)]; exact hbn
  rw [sem_eqN PP (j := 45) (F := f45) rfl, hS]
  -- the two loops
  have loop1 := forL_all (f := fun d e => optF (bindT (.nm 6) d e) fun e' => exec S e' f45b0) (enc := ip)
    (fun done env => ∃ a, env = [some (.int cell), some (.lst (L.map .int)), some (.int (n : Int)), some (.lst (st.map ip)), some (.int x1), some (.int (y1 + (done.map (·.2)).sum)), a, none, none, none, none, none])
    st [some (.int cell), some (.lst (L.map .int)), some (.int (n : Int)), some (.lst (st.map ip)), some (.int x1), some (.int y1), none, none, none, none, none, none] ⟨none, by simp⟩ fun done s rest env e hI => by
      obtain ⟨a, rfl⟩ := hI
      refine ⟨_, ?_, some (ip s), rfl⟩
      simp [runF, FD.out, Fl.out, Fl.outL, lent, exec, ev, R.fl_ok, argF_ok, argF, argD_ok, argD, consD_ok, consD, preX, xopD, sopD, optJ, noX, mkO, lkp, optR, badd, bsub, bmul, bfdiv, bmod, bpow, baddl, baddt, cmpD, notR, negR, bltD, ixl, ixt, ixs, intR, eqD_ii, eqD_fr, eqD_ptt, mkT0, mkT1, mkT2, mkT3, mkT4, mkL0, mkL1, mkL2, mkL3, mkL4, atD0, atD1, atD2, atD3, ixfr0, ixfr1, cmpI, lot, pt, semN_lt, List.getElem?_cons_zero, List.getElem?_cons_succ, bindT, optF, f45b0, ip, List.sum_append, Int.add_assoc]
  obtain ⟨e1, l1, s1, rfl⟩ := loop1
  have hcy : (st.map (·.2)).sum = cumy st st.length := by unfold cumy; rw [List.take_length]
  rw [hcy] at l1
  have loop2 := forL_all (f := fun d e => optF (bindT (.nm 6) d e) fun e' => exec S e' f45b1) (enc := ip)
    (fun done env => ∃ a, env = [some (.int cell), some (.lst (L.map .int)), some (.int (n : Int)), some (.lst (st.map ip)), some (.int (x1 + cumx st done.length)), some (.int (y1 + cumy st st.length - cumy st done.length)), a, some (.lst ((List.range (done.length + 1)).map fun i => ip (icor x1 y1 st i))), none, none, none, none] ∧ done.length ≤ st.length)
    st [some (.int cell), some (.lst (L.map .int)), some (.int (n : Int)), some (.lst (st.map ip)), some (.int x1), some (.int (y1 + cumy st st.length)), s1, some (.lst [.tup [.int x1, .int (y1 + cumy st st.length)]]), none, none, none, none] ⟨s1, by have := cum_zero st; simp [this.1, this.2, ip, icor], by simp⟩ fun done s rest env e hI => by
      obtain ⟨a, rfl, hle⟩ := hI
      have hlen := congrArg List.length e
      simp at hlen
      have hs : st[done.length]'(by omega) = s := by simp [e]
      have cs := cum_succ (st := st) (i := done.length) (by omega)
      rw [hs] at cs
      have hll : done.length + 1 < lim := by unfold lim; omega
      refine ⟨_, ?_, some (ip s), rfl, by simp; omega⟩
      rw [List.length_append, List.length_cons, List.length_nil, List.range_succ, List.map_append, cs.1, cs.2]
      simp [runF, FD.out, Fl.out, Fl.outL, lent, exec, ev, R.fl_ok, argF_ok, argF, argD_ok, argD, consD_ok, consD, preX, xopD, sopD, optJ, noX, mkO, lkp, optR, badd, bsub, bmul, bfdiv, bmod, bpow, baddl, baddt, cmpD, notR, negR, bltD, ixl, ixt, ixs, intR, eqD_ii, eqD_fr, eqD_ptt, mkT0, mkT1, mkT2, mkT3, mkT4, mkL0, mkL1, mkL2, mkL3, mkL4, atD0, atD1, atD2, atD3, ixfr0, ixfr1, cmpI, lot, pt, semN_lt, List.getElem?_cons_zero, List.getElem?_cons_succ, bindT, optF, f45b1, ip, hll, icor, cs.1, cs.2]
      refine ⟨by omega, by omega, ?_⟩
      simp [List.range_succ, cs.1, cs.2]
      omega
  obtain ⟨e2, l2, s2, rfl, _⟩ := loop2
  have hch : ((List.range (st.length + 1)).map fun i => ip (icor x1 y1 st i)) = (ichain x1 y1 st).map ip := by unfold ichain; rw [List.map_map]; rfl
  rw [hch] at l2
  generalize hX : x1 + cumx st st.length = X2 at l2
  generalize hY : y1 + cumy st st.length - cumy st st.length = Y2 at l2
  have hne := eqD_nil_ip st
  have pw5 : powOk 10 5 = true := by decide
  have hp5 : (10 : Int) ^ (5 : Int).toNat = 100000 := by decide
  have t0 : exec S [some (.int cell), none, none, none, none, none, none, none, none, none, none, none] (f45.body.nth 0) = .nx [some (.int cell), some (.lst (L.map .int)), none, none, none, none, none, none, none, none, none, none] := by
    simp [runF, FD.out, Fl.out, Fl.outL, lent, exec, ev, R.fl_ok, argF_ok, argF, argD_ok, argD, consD_ok, consD, preX, xopD, sopD, optJ, noX, mkO, lkp, optR, badd, bsub, bmul, bfdiv, bmod, bpow, baddl, baddt, cmpD, notR, negR, bltD, ixl, ixt, ixs, intR, eqD_ii, eqD_fr, eqD_ptt, mkT0, mkT1, mkT2, mkT3, mkT4, mkL0, mkL1, mkL2, mkL3, mkL4, atD0, atD1, atD2, atD3, ixfr0, ixfr1, cmpI, lot, pt, semN_lt, List.getElem?_cons_zero, List.getElem?_cons_succ, f45, IS.nth, hd']
  have t1 : exec S [some (.int cell), some (.lst (L.map .int)), none, none, none, none, none, none, none, none, none, none] (f45.body.nth 1) = .nx [some (.int cell), some (.lst (L.map .int)), some (.int ((L[0]).fmod 6)), none, none, none, none, none, none, none, none, none] := by
    simp [runF, FD.out, Fl.out, Fl.outL, lent, exec, ev, R.fl_ok, argF_ok, argF, argD_ok, argD, consD_ok, consD, preX, xopD, sopD, optJ, noX, mkO, lkp, optR, badd, bsub, bmul, bfdiv, bmod, bpow, baddl, baddt, cmpD, notR, negR, bltD, ixl, ixt, ixs, intR, eqD_ii, eqD_fr, eqD_ptt, mkT0, mkT1, mkT2, mkT3, mkT4, mkL0, mkL1, mkL2, mkL3, mkL4, atD0, atD1, atD2, atD3, ixfr0, ixfr1, cmpI, lot, pt, semN_lt, List.getElem?_cons_zero, List.getElem?_cons_succ, f45, IS.nth, a0]
  have t2 : exec S [some (.int cell), some (.lst (L.map .int)), some (.int ((L[0]).fmod 6)), none, none, none, none, none, none, none, none, none] (f45.body.nth 2) = .nx [some (.int cell), some (.lst (L.map .int)), some (.int (n : Int)), none, none, none, none, none, none, none, none, none] := by
    rw [hnv]
    by_cases h : (54 : Int) ≤ L[0] <;> simp [runF, FD.out, Fl.out, Fl.outL, lent, exec, ev, R.fl_ok, argF_ok, argF, argD_ok, argD, consD_ok, consD, preX, xopD, sopD, optJ, noX, mkO, lkp, optR, badd, bsub, bmul, bfdiv, bmod, bpow, baddl, baddt, cmpD, notR, negR, bltD, ixl, ixt, ixs, intR, eqD_ii, eqD_fr, eqD_ptt, mkT0, mkT1, mkT2, mkT3, mkT4, mkL0, mkL1, mkL2, mkL3, mkL4, atD0, atD1, atD2, atD3, ixfr0, ixfr1, cmpI, lot, pt, semN_lt, List.getElem?_cons_zero, List.getElem?_cons_succ, f45, IS.nth, a0, a1, h]
  have t3 : exec S [some (.int cell), some (.lst (L.map .int)), some (.int (n : Int)), none, none, none, none, none, none, none, none, none] (f45.body.nth 3) = .nx [some (.int cell), some (.lst (L.map .int)), some (.int (n : Int)), some (.lst (st.map ip)), none, none, none, none, none, none, none, none] := by
    simp [runF, FD.out, Fl.out, Fl.outL, lent, exec, ev, R.fl_ok, argF_ok, argF, argD_ok, argD, consD_ok, consD, preX, xopD, sopD, optJ, noX, mkO, lkp, optR, badd, bsub, bmul, bfdiv, bmod, bpow, baddl, baddt, cmpD, notR, negR, bltD, ixl, ixt, ixs, intR, eqD_ii, eqD_fr, eqD_ptt, mkT0, mkT1, mkT2, mkT3, mkT4, mkL0, mkL1, mkL2, mkL3, mkL4, atD0, atD1, atD2, atD3, ixfr0, ixfr1, cmpI, lot, pt, semN_lt, List.getElem?_cons_zero, List.getElem?_cons_succ, f45, IS.nth, hst']
  have t4 : exec S [some (.int cell), some (.lst (L.map .int)), some (.int (n : Int)), some (.lst (st.map ip)), none, none, none, none, none, none, none, none] (f45.body.nth 4) = .nx [some (.int cell), some (.lst (L.map .int)), some (.int (n : Int)), some (.lst (st.map ip)), some (.int x0), none, none, none, none, none, none, none] := by
    rw [hx0]
    simp [runF, FD.out, Fl.out, Fl.outL, lent, exec, ev, R.fl_ok, argF_ok, argF, argD_ok, argD, consD_ok, consD, preX, xopD, sopD, optJ, noX, mkO, lkp, optR, badd, bsub, bmul, bfdiv, bmod, bpow, baddl, baddt, cmpD, notR, negR, bltD, ixl, ixt, ixs, intR, eqD_ii, eqD_fr, eqD_ptt, mkT0, mkT1, mkT2, mkT3, mkT4, mkL0, mkL1, mkL2, mkL3, mkL4, atD0, atD1, atD2, atD3, ixfr0, ixfr1, cmpI, lot, pt, semN_lt, List.getElem?_cons_zero, List.getElem?_cons_succ, f45, IS.nth, a3]
  have t5 : exec S [some (.int cell), some (.lst (L.map .int)), some (.int (n : Int)), some (.lst (st.map ip)), some (.int x0), none, none, none, none, none, none, none] (f45.body.nth 5) = .nx [some (.int cell), some (.lst (L.map .int)), some (.int (n : Int)), some (.lst (st.map ip)), some (.int x0), some (.int y0), none, none, none, none, none, none] := by
    rw [hy0]
    simp [runF, FD.out, Fl.out, Fl.outL, lent, exec, ev, R.fl_ok, argF_ok, argF, argD_ok, argD, consD_ok, consD, preX, xopD, sopD, optJ, noX, mkO, lkp, optR, badd, bsub, bmul, bfdiv, bmod, bpow, baddl, baddt, cmpD, notR, negR, bltD, ixl, ixt, ixs, intR, eqD_ii, eqD_fr, eqD_ptt, mkT0, mkT1, mkT2, mkT3, mkT4, mkL0, mkL1, mkL2, mkL3, mkL4, atD0, atD1, atD2, atD3, ixfr0, ixfr1, cmpI, lot, pt, semN_lt, List.getElem?_cons_zero, List.getElem?_cons_succ, f45, IS.nth, a4]
  have t6 : exec S [some (.int cell), some (.lst (L.map .int)), some (.int (n : Int)), some (.lst (st.map ip)), some (.int x0), some (.int y0), none, none, none, none, none, none] (f45.body.nth 6) = .nx [some (.int cell), some (.lst (L.map .int)), some (.int (n : Int)), some (.lst (st.map ip)), some (.int x1), some (.int y1), none, none, none, none, none, none] := by
    rw [hxy, hone1]
    by_cases h : st = [] <;> simp [runF, FD.out, Fl.out, Fl.outL, lent, exec, ev, R.fl_ok, argF_ok, argF, argD_ok, argD, consD_ok, consD, preX, xopD, sopD, optJ, noX, mkO, lkp, optR, badd, bsub, bmul, bfdiv, bmod, bpow, baddl, baddt, cmpD, notR, negR, bltD, ixl, ixt, ixs, intR, eqD_ii, eqD_fr, eqD_ptt, mkT0, mkT1, mkT2, mkT3, mkT4, mkL0, mkL1, mkL2, mkL3, mkL4, atD0, atD1, atD2, atD3, ixfr0, ixfr1, cmpI, lot, pt, semN_lt, List.getElem?_cons_zero, List.getElem?_cons_succ, f45, IS.nth, hne, h]
    simp [h] at hne
    simp [hne]
  have t7 : exec S [some (.int cell), some (.lst (L.map .int)), some (.int (n : Int)), some (.lst (st.map ip)), some (.int x1), some (.int y1), none, none, none, none, none, none] (f45.body.nth 7) = .nx [some (.int cell), some (.lst (L.map .int)), some (.int (n : Int)), some (.lst (st.map ip)), some (.int x1), some (.int (y1 + cumy st st.length)), s1, none, none, none, none, none] := by
    simp [runF, FD.out, Fl.out, Fl.outL, lent, exec, ev, R.fl_ok, argF_ok, argF, argD_ok, argD, consD_ok, consD, preX, xopD, sopD, optJ, noX, mkO, lkp, optR, badd, bsub, bmul, bfdiv, bmod, bpow, baddl, baddt, cmpD, notR, negR, bltD, ixl, ixt, ixs, intR, eqD_ii, eqD_fr, eqD_ptt, mkT0, mkT1, mkT2, mkT3, mkT4, mkL0, mkL1, mkL2, mkL3, mkL4, atD0, atD1, atD2, atD3, ixfr0, ixfr1, cmpI, lot, pt, semN_lt, List.getElem?_cons_zero, List.getElem?_cons_succ, f45, IS.nth, itD, seqD, l1]
  have t8 : exec S [some (.int cell), some (.lst (L.map .int)), some (.int (n : Int)), some (.lst (st.map ip)), some (.int x1), some (.int (y1 + cumy st st.length)), s1, none, none, none, none, none] (f45.body.nth 8) = .nx [some (.int cell), some (.lst (L.map .int)), some (.int (n : Int)), some (.lst (st.map ip)), some (.int x1), some (.int (y1 + cumy st st.length)), s1, some (.lst [.tup [.int x1, .int (y1 + cumy st st.length)]]), none, none, none, none] := by
    simp [runF, FD.out, Fl.out, Fl.outL, lent, exec, ev, R.fl_ok, argF_ok, argF, argD_ok, argD, consD_ok, consD, preX, xopD, sopD, optJ, noX, mkO, lkp, optR, badd, bsub, bmul, bfdiv, bmod, bpow, baddl, baddt, cmpD, notR, negR, bltD, ixl, ixt, ixs, intR, eqD_ii, eqD_fr, eqD_ptt, mkT0, mkT1, mkT2, mkT3, mkT4, mkL0, mkL1, mkL2, mkL3, mkL4, atD0, atD1, atD2, atD3, ixfr0, ixfr1, cmpI, lot, pt, semN_lt, List.getElem?_cons_zero, List.getElem?_cons_succ, f45, IS.nth]
  have t9 : exec S [some (.int cell), some (.lst (L.map .int)), some (.int (n : Int)), some (.lst (st.map ip)), some (.int x1), some (.int (y1 + cumy st st.length)), s1, some (.lst [.tup [.int x1, .int (y1 + cumy st st.length)]]), none, none, none, none] (f45.body.nth 9) = .nx [some (.int cell), some (.lst (L.map .int)), some (.int (n : Int)), some (.lst (st.map ip)), some (.int X2), some (.int Y2), s2, some (.lst ((ichain x1 y1 st).map ip)), none, none, none, none] := by
    simp [runF, FD.out, Fl.out, Fl.outL, lent, exec, ev, R.fl_ok, argF_ok, argF, argD_ok, argD, consD_ok, consD, preX, xopD, sopD, optJ, noX, mkO, lkp, optR, badd, bsub, bmul, bfdiv, bmod, bpow, baddl, baddt, cmpD, notR, negR, bltD, ixl, ixt, ixs, intR, eqD_ii, eqD_fr, eqD_ptt, mkT0, mkT1, mkT2, mkT3, mkT4, mkL0, mkL1, mkL2, mkL3, mkL4, atD0, atD1, atD2, atD3, ixfr0, ixfr1, cmpI, lot, pt, semN_lt, List.getElem?_cons_zero, List.getElem?_cons_succ, f45, IS.nth, itD, seqD, l2]
  have t10 : exec S [some (.int cell), some (.lst (L.map .int)), some (.int (n : Int)), some (.lst (st.map ip)), some (.int X2), some (.int Y2), s2, some (.lst ((ichain x1 y1 st).map ip)), none, none, none, none] (f45.body.nth 10) = .nx [some (.int cell), some (.lst (L.map .int)), some (.int (n : Int)), some (.lst (st.map ip)), some (.int X2), some (.int Y2), s2, some (.lst ((ichain x1 y1 st).map ip)), some (.lst [.int ((1 : Int) + (L[5]).fmod 6), .int ((1 : Int) + (L[6]).fmod 6), .int ((1 : Int) + (L[7]).fmod 6), .int ((1 : Int) + (L[8]).fmod 6)]), none, none, none] := by
    simp [runF, FD.out, Fl.out, Fl.outL, lent, exec, ev, R.fl_ok, argF_ok, argF, argD_ok, argD, consD_ok, consD, preX, xopD, sopD, optJ, noX, mkO, lkp, optR, badd, bsub, bmul, bfdiv, bmod, bpow, baddl, baddt, cmpD, notR, negR, bltD, ixl, ixt, ixs, intR, eqD_ii, eqD_fr, eqD_ptt, mkT0, mkT1, mkT2, mkT3, mkT4, mkL0, mkL1, mkL2, mkL3, mkL4, atD0, atD1, atD2, atD3, ixfr0, ixfr1, cmpI, lot, pt, semN_lt, List.getElem?_cons_zero, List.getElem?_cons_succ, f45, IS.nth, a5, a6, a7, a8]
  have t11 : exec S [some (.int cell), some (.lst (L.map .int)), some (.int (n : Int)), some (.lst (st.map ip)), some (.int X2), some (.int Y2), s2, some (.lst ((ichain x1 y1 st).map ip)), some (.lst [.int ((1 : Int) + (L[5]).fmod 6), .int ((1 : Int) + (L[6]).fmod 6), .int ((1 : Int) + (L[7]).fmod 6), .int ((1 : Int) + (L[8]).fmod 6)]), none, none, none] (f45.body.nth 11) = .nx [some (.int cell), some (.lst (L.map .int)), some (.int (n : Int)), some (.lst (st.map ip)), some (.int X2), some (.int Y2), s2, some (.lst ((ichain x1 y1 st).map ip)), some (.lst [.int (un ((1 : Int) + (L[5]).fmod 6)), .int (un ((1 : Int) + (L[6]).fmod 6)), .int (un ((1 : Int) + (L[7]).fmod 6)), .int (un ((1 : Int) + (L[8]).fmod 6))]), none, none, none] := by
    rw [hun]
    by_cases h : (L[2]).fmod 5 = 4
    · rw [if_pos h]
      have hm := mapO_lc (S := S) (env := [some (.int cell), some (.lst (L.map .int)), some (.int (n : Int)), some (.lst (st.map ip)), some (.int X2), some (.int Y2), s2, some (.lst ((ichain x1 y1 st).map ip)), some (.lst [.int ((1 : Int) + (L[5]).fmod 6), .int ((1 : Int) + (L[6]).fmod 6), .int ((1 : Int) + (L[7]).fmod 6), .int ((1 : Int) + (L[8]).fmod 6)]), none, none, none]) (e := f45e0) (t := .nm 11) (enc := D.int) (g := fun u => D.int (u * 100000 + L[9])) (xs := [(1 : Int) + (L[5]).fmod 6, (1 : Int) + (L[6]).fmod 6, (1 : Int) + (L[7]).fmod 6, (1 : Int) + (L[8]).fmod 6]) fun u hu => by
        have hu' : 1 ≤ u ∧ u ≤ 6 := by
          simp only [List.mem_cons, List.not_mem_nil, or_false] at hu
          omega
        have mu : mulOk u 100000 = true := mulOk_of (k := 20) (l := 20) (by omega) (by decide) (by omega)
        refine ⟨_, rfl, ?_⟩
        simp [runF, FD.out, Fl.out, Fl.outL, lent, exec, ev, R.fl_ok, argF_ok, argF, argD_ok, argD, consD_ok, consD, preX, xopD, sopD, optJ, noX, mkO, lkp, optR, badd, bsub, bmul, bfdiv, bmod, bpow, baddl, baddt, cmpD, notR, negR, bltD, ixl, ixt, ixs, intR, eqD_ii, eqD_fr, eqD_ptt, mkT0, mkT1, mkT2, mkT3, mkT4, mkL0, mkL1, mkL2, mkL3, mkL4, atD0, atD1, atD2, atD3, ixfr0, ixfr1, cmpI, lot, pt, semN_lt, List.getElem?_cons_zero, List.getElem?_cons_succ, Tg.own, wipeE, f45e0, pw5, hp5, mu, a9]
      simp only [List.map_cons, List.map_nil] at hm
      simp [runF, FD.out, Fl.out, Fl.outL, lent, exec, ev, R.fl_ok, argF_ok, argF, argD_ok, argD, consD_ok, consD, preX, xopD, sopD, optJ, noX, mkO, lkp, optR, badd, bsub, bmul, bfdiv, bmod, bpow, baddl, baddt, cmpD, notR, negR, bltD, ixl, ixt, ixs, intR, eqD_ii, eqD_fr, eqD_ptt, mkT0, mkT1, mkT2, mkT3, mkT4, mkL0, mkL1, mkL2, mkL3, mkL4, atD0, atD1, atD2, atD3, ixfr0, ixfr1, cmpI, lot, pt, semN_lt, List.getElem?_cons_zero, List.getElem?_cons_succ, f45, IS.nth, a2, h, itD, seqD, lcD, lim, hm]
    · rw [if_neg h]
      simp [runF, FD.out, Fl.out, Fl.outL, lent, exec, ev, R.fl_ok, argF_ok, argF, argD_ok, argD, consD_ok, consD, preX, xopD, sopD, optJ, noX, mkO, lkp, optR, badd, bsub, bmul, bfdiv, bmod, bpow, baddl, baddt, cmpD, notR, negR, bltD, ixl, ixt, ixs, intR, eqD_ii, eqD_fr, eqD_ptt, mkT0, mkT1, mkT2, mkT3, mkT4, mkL0, mkL1, mkL2, mkL3, mkL4, atD0, atD1, atD2, atD3, ixfr0, ixfr1, cmpI, lot, pt, semN_lt, List.getElem?_cons_zero, List.getElem?_cons_succ, f45, IS.nth, a2, h]
  have t12 : exec S [some (.int cell), some (.lst (L.map .int)), some (.int (n : Int)), some (.lst (st.map ip)), some (.int X2), some (.int Y2), s2, some (.lst ((ichain x1 y1 st).map ip)), some (.lst [.int (un ((1 : Int) + (L[5]).fmod 6)), .int (un ((1 : Int) + (L[6]).fmod 6)), .int (un ((1 : Int) + (L[7]).fmod 6)), .int (un ((1 : Int) + (L[8]).fmod 6))]), none, none, none] (f45.body.nth 12) = .nx [some (.int cell), some (.lst (L.map .int)), some (.int (n : Int)), some (.lst (st.map ip)), some (.int X2), some (.int Y2), s2, some (.lst ((ichain x1 y1 st).map ip)), some (.lst [.int (un ((1 : Int) + (L[5]).fmod 6)), .int (un ((1 : Int) + (L[6]).fmod 6)), .int (un ((1 : Int) + (L[7]).fmod 6)), .int (un ((1 : Int) + (L[8]).fmod 6))]), some (fr lf), none, none] := by
    simp [runF, FD.out, Fl.out, Fl.outL, lent, exec, ev, R.fl_ok, argF_ok, argF, argD_ok, argD, consD_ok, consD, preX, xopD, sopD, optJ, noX, mkO, lkp, optR, badd, bsub, bmul, bfdiv, bmod, bpow, baddl, baddt, cmpD, notR, negR, bltD, ixl, ixt, ixs, intR, eqD_ii, eqD_fr, eqD_ptt, mkT0, mkT1, mkT2, mkT3, mkT4, mkL0, mkL1, mkL2, mkL3, mkL4, atD0, atD1, atD2, atD3, ixfr0, ixfr1, cmpI, lot, pt, semN_lt, List.getElem?_cons_zero, List.getElem?_cons_succ, f45, IS.nth, a9, a10, hlf']
  have t13 : exec S [some (.int cell), some (.lst (L.map .int)), some (.int (n : Int)), some (.lst (st.map ip)), some (.int X2), some (.int Y2), s2, some (.lst ((ichain x1 y1 st).map ip)), some (.lst [.int (un ((1 : Int) + (L[5]).fmod 6)), .int (un ((1 : Int) + (L[6]).fmod 6)), .int (un ((1 : Int) + (L[7]).fmod 6)), .int (un ((1 : Int) + (L[8]).fmod 6))]), some (fr lf), none, none] (f45.body.nth 13) = .nx [some (.int cell), some (.lst (L.map .int)), some (.int (n : Int)), some (.lst (st.map ip)), some (.int X2), some (.int Y2), s2, some (.lst ((ichain x1 y1 st).map ip)), some (.lst [.int (un ((1 : Int) + (L[5]).fmod 6)), .int (un ((1 : Int) + (L[6]).fmod 6)), .int (un ((1 : Int) + (L[7]).fmod 6)), .int (un ((1 : Int) + (L[8]).fmod 6))]), some (fr lf), some (fr lw), none] := by
    simp [runF, FD.out, Fl.out, Fl.outL, lent, exec, ev, R.fl_ok, argF_ok, argF, argD_ok, argD, consD_ok, consD, preX, xopD, sopD, optJ, noX, mkO, lkp, optR, badd, bsub, bmul, bfdiv, bmod, bpow, baddl, baddt, cmpD, notR, negR, bltD, ixl, ixt, ixs, intR, eqD_ii, eqD_fr, eqD_ptt, mkT0, mkT1, mkT2, mkT3, mkT4, mkL0, mkL1, mkL2, mkL3, mkL4, atD0, atD1, atD2, atD3, ixfr0, ixfr1, cmpI, lot, pt, semN_lt, List.getElem?_cons_zero, List.getElem?_cons_succ, f45, IS.nth, a8, a11, hlw']
  have t16 : exec S [some (.int cell), some (.lst (L.map .int)), some (.int (n : Int)), some (.lst (st.map ip)), some (.int X2), some (.int Y2), s2, some (.lst ((ichain x1 y1 st).map ip)), some (.lst [.int (un ((1 : Int) + (L[5]).fmod 6)), .int (un ((1 : Int) + (L[6]).fmod 6)), .int (un ((1 : Int) + (L[7]).fmod 6)), .int (un ((1 : Int) + (L[8]).fmod 6))]), some (fr lf), some (fr lw), none] (f45.body.nth 16) = .rt (wdD w) [some (.int cell), some (.lst (L.map .int)), some (.int (n : Int)), some (.lst (st.map ip)), some (.int X2), some (.int Y2), s2, some (.lst ((ichain x1 y1 st).map ip)), some (.lst [.int (un ((1 : Int) + (L[5]).fmod 6)), .int (un ((1 : Int) + (L[6]).fmod 6)), .int (un ((1 : Int) + (L[7]).fmod 6)), .int (un ((1 : Int) + (L[8]).fmod 6))]), some (fr lf), some (fr lw), none] := by
    simp [runF, FD.out, Fl.out, Fl.outL, lent, exec, ev, R.fl_ok, argF_ok, argF, argD_ok, argD, consD_ok, consD, preX, xopD, sopD, optJ, noX, mkO, lkp, optR, badd, bsub, bmul, bfdiv, bmod, bpow, baddl, baddt, cmpD, notR, negR, bltD, ixl, ixt, ixs, intR, eqD_ii, eqD_fr, eqD_ptt, mkT0, mkT1, mkT2, mkT3, mkT4, mkL0, mkL1, mkL2, mkL3, mkL4, atD0, atD1, atD2, atD3, ixfr0, ixfr1, cmpI, lot, pt, semN_lt, List.getElem?_cons_zero, List.getElem?_cons_succ, f45, IS.nth, hbn', wdD, w]
  have all : exec S [some (.int cell), none, none, none, none, none, none, none, none, none, none, none] f45.body = .rt (wdD w) _ :=
    ex_step t0 (ex_step t1 (ex_step t2 (ex_step t3 (ex_step t4 (ex_step t5 (ex_step t6 (ex_step t7 (ex_step t8 (ex_step t9 (ex_step t10 (ex_step t11 (ex_step t12 (ex_step t13 (ex_step rfl (ex_step rfl (ex_ret t16))))))))))))))))
  show FD.out f45 (exec S [some (.int cell), none, none, none, none, none, none, none, none, none, none, none] f45.body) = _
  rw [all]
  rfl

end Pv.K59

namespace Pv.K59
open PySem PySem.Spec PyProof.Rows L2
theorem edges_r {cs : List Pt} {k : Nat} (hs : AllSp cs k) (hk : k + k + 1 < 9000) (hn : 0 < cs.length) (hl : cs.length < 1000) :
    sem PP 7 [lot cs] = .ok (.lst ((List.range (cs.length - 1)).map (edg cs))) := by
  rw [sem_eqN PP (j := 7) (F := f7) rfl]
  generalize hS : semN PP 7 = S
  haveI := fun i => hs.i1 i
  haveI := fun i => hs.i2 i
  have loop := forL_all (f := fun d e => optF (bindT (.nm 2) d e) fun e' => exec S e' f7b0) (enc := fun i : Nat => D.int (1 + i)) (fun done env => ∃ a b c, env = [some (lot cs), some (.lst (done.map (edg cs))), a, b, c])
    (List.range (cs.length - 1)) [some (lot cs), some (.lst []), none, none, none] ⟨none, none, none, rfl⟩ fun done x rest env e hI => by
      obtain ⟨a, b, c, rfl⟩ := hI
      have hx : x < cs.length - 1 := List.mem_range.mp (by rw [e]; simp)
      have hdl : done.length < cs.length := by
        have := congrArg List.length e
        simp at this
        omega
      have a1 := atD_cor (cs := cs) (i := 1 + (x : Int) - 1) (n := x) (by omega) (by omega)
      have a2 := atD_cor (cs := cs) (i := 1 + (x : Int)) (n := x + 1) (by omega) (by omega)
      have l1 : done.length < lim := by unfold lim; omega
      refine ⟨_, ?_, some (.int (1 + x)), some (pt (cor cs x)), some (pt (cor cs (x + 1))), rfl⟩
      simp (disch := omega) [runF, FD.out, Fl.out, Fl.outL, lent, exec, ev, R.fl_ok, argF_ok, argF, argD_ok, argD, consD_ok, consD, preX, xopD, sopD, optJ, noX, mkO, lkp, optR, badd, bsub, bmul, bfdiv, bmod, bpow, baddl, baddt, cmpD, notR, negR, bltD, ixl, ixt, ixs, intR, eqD_ii, eqD_fr, eqD_ptt, mkT0, mkT1, mkT2, mkT3, mkT4, mkL0, mkL1, mkL2, mkL3, mkL4, atD0, atD1, atD2, atD3, ixfr0, ixfr1, cmpI, lot, pt, semN_lt, List.getElem?_cons_zero, List.getElem?_cons_succ, bindT, optF, f7b0, a1, a2, ← hS, plus_s, minus_s, times_s, below_s, larger_s, lplus_s, lminus_s, lminus1_s, ltimes_s, lless_s, gap_s, weighed_s, most_s, lback_s, ltop_s, chkw_s, l1, edg]
  obtain ⟨env', h1, a, b, c, rfl⟩ := loop
  have r := rng1 (n := cs.length) (by omega) hn
  simp [runF, FD.out, Fl.out, Fl.outL, lent, exec, ev, R.fl_ok, argF_ok, argF, argD_ok, argD, consD_ok, consD, preX, xopD, sopD, optJ, noX, mkO, lkp, optR, badd, bsub, bmul, bfdiv, bmod, bpow, baddl, baddt, cmpD, notR, negR, bltD, ixl, ixt, ixs, intR, eqD_ii, eqD_fr, eqD_ptt, mkT0, mkT1, mkT2, mkT3, mkT4, mkL0, mkL1, mkL2, mkL3, mkL4, atD0, atD1, atD2, atD3, ixfr0, ixfr1, cmpI, lot, pt, semN_lt, List.getElem?_cons_zero, List.getElem?_cons_succ, f7, r]
  unfold lot at h1
  rw [h1]
  simp
theorem lossp_ok {cs : List Pt} {w : Rat} {k m : Nat} (c : Ch cs) (hs : AllSp cs k) (hw : Sz w m) (hk : 26 * k + 6 * m + 30 < 9000) (hl : cs.length < 1000) (w0 : 0 < w) (w1 : w < 1) :
    sem PP 12 [lot cs, fr w] = .ok (pt (lossP cs w)) := by
  have hn := c.pos
  have he := edges_r hs (by omega) hn hl
  have hcw := chkw_s (w := w) (A := ⟨hw⟩) (by omega)
  rw [if_pos ⟨w0, w1⟩] at hcw
  rw [sem_eqN PP (j := 12) (F := f12) rfl]
  generalize hS : semN PP 12 = S
  haveI := fun i => hs.i1 i
  haveI := fun i => hs.i2 i
  haveI := zs_of hw
  have hk1 := hs.1
  have loop := forL_all (f := fun d e => optF (bindT (.tp (.cons (.nm 4) (.cons (.nm 5) (.cons (.nm 6) .nil)))) d e) fun e' => exec S e' f12b0) (enc := edg cs)
    (fun done env => ∃ a b c d, env = [some (lot cs), some (fr w), some (.tup [fr w, fr (1 - w)]), some (fr (done.foldl (fun f k => mx f (lq cs w k)) 0)), a, b, c, d])
    (List.range (cs.length - 1)) [some (lot cs), some (fr w), some (.tup [fr w, fr (1 - w)]), some (fr 0), none, none, none, none] ⟨none, none, none, none, rfl⟩ fun done x rest env e hI => by
      obtain ⟨a, b, d, f, rfl⟩ := hI
      have hx : x < cs.length - 1 := List.mem_range.mp (by rw [e]; simp)
      have hd := lq_den c w0 w1 (k := x) (by omega)
      have ho := over_p (a := ((cor cs x).2 - (cor cs (x + 1)).2) * ((cor cs (cs.length - 1)).1 - (cor cs x).1) + ((cor cs (x + 1)).1 - (cor cs x).1) * ((cor cs 0).2 - (cor cs x).2)) (b := ((cor cs x).2 - (cor cs (x + 1)).2) * w + ((cor cs (x + 1)).1 - (cor cs x).1) * (1 - w)) (by grind) (by omega)
      rw [show (((cor cs x).2 - (cor cs (x + 1)).2) * ((cor cs (cs.length - 1)).1 - (cor cs x).1) + ((cor cs (x + 1)).1 - (cor cs x).1) * ((cor cs 0).2 - (cor cs x).2)) / (((cor cs x).2 - (cor cs (x + 1)).2) * w + ((cor cs (x + 1)).1 - (cor cs x).1) * (1 - w)) = lq cs w x from rfl] at ho
      haveI := zs_of (lq_sz hs hw x)
      haveI := zs_of (foldl_sz (fun i => lq_sz hs hw i) done 0 (sz0 (by omega)))
      have hm := most_r (cs := cs) hn
      refine ⟨_, ?_, some (pt (cor cs x)), some (pt (cor cs (x + 1))), some (pt ((cor cs x).2 - (cor cs (x + 1)).2, (cor cs (x + 1)).1 - (cor cs x).1)), some (fr (((cor cs x).2 - (cor cs (x + 1)).2) * ((cor cs (cs.length - 1)).1 - (cor cs x).1) + ((cor cs (x + 1)).1 - (cor cs x).1) * ((cor cs 0).2 - (cor cs x).2))), rfl⟩
      simp (disch := omega) [runF, FD.out, Fl.out, Fl.outL, lent, exec, ev, R.fl_ok, argF_ok, argF, argD_ok, argD, consD_ok, consD, preX, xopD, sopD, optJ, noX, mkO, lkp, optR, badd, bsub, bmul, bfdiv, bmod, bpow, baddl, baddt, cmpD, notR, negR, bltD, ixl, ixt, ixs, intR, eqD_ii, eqD_fr, eqD_ptt, mkT0, mkT1, mkT2, mkT3, mkT4, mkL0, mkL1, mkL2, mkL3, mkL4, atD0, atD1, atD2, atD3, ixfr0, ixfr1, cmpI, lot, pt, semN_lt, List.getElem?_cons_zero, List.getElem?_cons_succ, bindT, optF, f12b0, edg, ← hS, plus_s, minus_s, times_s, below_s, larger_s, lplus_s, lminus_s, lminus1_s, ltimes_s, lless_s, gap_s, weighed_s, most_s, lback_s, ltop_s, chkw_s, hn, ho, List.foldl_append]
  obtain ⟨env', h1, a, b, d, f, rfl⟩ := loop
  haveI := zs_of (foldl_sz (fun i => lq_sz hs hw i) (List.range (cs.length - 1)) 0 (sz0 (by omega)))
  subst hS
  unfold lot at he h1
  simp (disch := omega) [runF, FD.out, Fl.out, Fl.outL, lent, exec, ev, R.fl_ok, argF_ok, argF, argD_ok, argD, consD_ok, consD, preX, xopD, sopD, optJ, noX, mkO, lkp, optR, badd, bsub, bmul, bfdiv, bmod, bpow, baddl, baddt, cmpD, notR, negR, bltD, ixl, ixt, ixs, intR, eqD_ii, eqD_fr, eqD_ptt, mkT0, mkT1, mkT2, mkT3, mkT4, mkL0, mkL1, mkL2, mkL3, mkL4, atD0, atD1, atD2, atD3, ixfr0, ixfr1, cmpI, lot, pt, semN_lt, List.getElem?_cons_zero, List.getElem?_cons_succ, f12, plus_s, minus_s, times_s, below_s, larger_s, lplus_s, lminus_s, lminus1_s, ltimes_s, lless_s, gap_s, weighed_s, most_s, lback_s, ltop_s, chkw_s, hcw, he, h1, itD, seqD, hn, ← fr1, ← fr0]
  simp [lossP, lfar]

end Pv.K59

namespace Pv.K59
open PySem PySem.Spec PyProof.Rows L2
theorem isnum_s {q : Rat} {k : Nat} [A : Zs q k] (h : k < 9000) : sem PP 36 [fr q] = .ok (.bl true) := by
  have e := mkW q.num q.den k (den_pos q) A.o.n A.o.d' h
  rw [Rat.num_divInt_den] at e
  unfold fr at e ⊢
  have hd := q.den_pos
  rw [sem_eqN PP (j := 36) (F := f36) rfl]
  have e2 : eqD (.tup [.int q.num, .int q.den]) (.tup [.int q.num, .int q.den]) = .ok (.bl true) := by
    have := eqD_fr q q
    rw [show decide (q = q) = true by simp] at this
    exact this
  simp (disch := omega) [runF, FD.out, Fl.out, Fl.outL, lent, exec, ev, R.fl_ok, argF_ok, argF, argD_ok, argD, consD_ok, consD, preX, xopD, sopD, optJ, noX, mkO, lkp, optR, badd, bsub, bmul, bfdiv, bmod, bpow, baddl, baddt, cmpD, notR, negR, bltD, ixl, ixt, ixs, intR, eqD_ii, eqD_fr, eqD_ptt, mkT0, mkT1, mkT2, mkT3, mkT4, mkL0, mkL1, mkL2, mkL3, mkL4, atD0, atD1, atD2, atD3, ixfr0, ixfr1, cmpI, lot, pt, semN_lt, List.getElem?_cons_zero, List.getElem?_cons_succ, f36, plus_s, minus_s, times_s, below_s, larger_s, lplus_s, lminus_s, lminus1_s, ltimes_s, lless_s, gap_s, weighed_s, most_s, lback_s, ltop_s, chkw_s, isnum_s, itD, seqD, forL, bindT, optF, f36b0, e, e2, hd]
theorem isnum_non : sem PP 36 [.non] = .ok (.bl false) := by
  rw [sem_eqN PP (j := 36) (F := f36) rfl]
  simp (disch := omega) [runF, FD.out, Fl.out, Fl.outL, lent, exec, ev, R.fl_ok, argF_ok, argF, argD_ok, argD, consD_ok, consD, preX, xopD, sopD, optJ, noX, mkO, lkp, optR, badd, bsub, bmul, bfdiv, bmod, bpow, baddl, baddt, cmpD, notR, negR, bltD, ixl, ixt, ixs, intR, eqD_ii, eqD_fr, eqD_ptt, mkT0, mkT1, mkT2, mkT3, mkT4, mkL0, mkL1, mkL2, mkL3, mkL4, atD0, atD1, atD2, atD3, ixfr0, ixfr1, cmpI, lot, pt, semN_lt, List.getElem?_cons_zero, List.getElem?_cons_succ, f36]
theorem ispt_s {a b : Rat} {k l : Nat} [A : Zs a k] [B : Zs b l] (h : k < 9000) (h' : l < 9000) : sem PP 37 [.tup [fr a, fr b]] = .ok (.bl true) := by
  rw [sem_eqN PP (j := 37) (F := f37) rfl]
  simp (disch := omega) [runF, FD.out, Fl.out, Fl.outL, lent, exec, ev, R.fl_ok, argF_ok, argF, argD_ok, argD, consD_ok, consD, preX, xopD, sopD, optJ, noX, mkO, lkp, optR, badd, bsub, bmul, bfdiv, bmod, bpow, baddl, baddt, cmpD, notR, negR, bltD, ixl, ixt, ixs, intR, eqD_ii, eqD_fr, eqD_ptt, mkT0, mkT1, mkT2, mkT3, mkT4, mkL0, mkL1, mkL2, mkL3, mkL4, atD0, atD1, atD2, atD3, ixfr0, ixfr1, cmpI, lot, pt, semN_lt, List.getElem?_cons_zero, List.getElem?_cons_succ, f37, plus_s, minus_s, times_s, below_s, larger_s, lplus_s, lminus_s, lminus1_s, ltimes_s, lless_s, gap_s, weighed_s, most_s, lback_s, ltop_s, chkw_s, isnum_s, ispt_s]
theorem ispt_non_s : sem PP 37 [.non] = .ok (.bl false) := by
  rw [sem_eqN PP (j := 37) (F := f37) rfl]
  simp (disch := omega) [runF, FD.out, Fl.out, Fl.outL, lent, exec, ev, R.fl_ok, argF_ok, argF, argD_ok, argD, consD_ok, consD, preX, xopD, sopD, optJ, noX, mkO, lkp, optR, badd, bsub, bmul, bfdiv, bmod, bpow, baddl, baddt, cmpD, notR, negR, bltD, ixl, ixt, ixs, intR, eqD_ii, eqD_fr, eqD_ptt, mkT0, mkT1, mkT2, mkT3, mkT4, mkL0, mkL1, mkL2, mkL3, mkL4, atD0, atD1, atD2, atD3, ixfr0, ixfr1, cmpI, lot, pt, semN_lt, List.getElem?_cons_zero, List.getElem?_cons_succ, f37]
theorem lhigh_ok {cs : List Pt} {x : Rat} {k m : Nat} (c : Ch cs) (hs : AllSp cs k) (hx : Sz x m) (hk : 10 * k + m + 10 < 9000) (hl : cs.length < 1000) :
    sem PP 38 [.lst (cs.map pt), fr x] = .ok (fr (hgt cs x)) := by
  rw [sem_eqN PP (j := 38) (F := f38) rfl]
  generalize hS : semN PP 38 = S
  haveI := fun i => hs.i1 i
  haveI := fun i => hs.i2 i
  haveI := zs_of hx
  have hk1 := hs.1
  have hn := c.pos
  by_cases h0 : (cor cs 0).1 < x
  · have loop := forL_find (f := fun d e => optF (bindT (.nm 2) d e) fun e' => exec S e' f38b0) (enc := fun i : Nat => D.int (1 + i)) (p := fun k => decide (x ≤ (cor cs (k + 1)).1)) (r := fun k => fr (seg cs k x))
      (I := fun env => ∃ a b c, env = [some (.lst (cs.map pt)), some (fr x), a, b, c]) (List.range (cs.length - 1)) [some (.lst (cs.map pt)), some (fr x), none, none, none] ⟨none, none, none, rfl⟩ fun i env hi hI => by
        obtain ⟨a, b, d, rfl⟩ := hI
        have hi := List.mem_range.mp hi
        have a1 := atD_cor (cs := cs) (i := 1 + (i : Int) - 1) (n := i) (by omega) (by omega)
        have a2 := atD_cor (cs := cs) (i := 1 + (i : Int)) (n := i + 1) (by omega) (by omega)
        have dx := c.hx i (by omega)
        by_cases h : (cor cs (i + 1)).1 < x
        · have h' : ¬ x ≤ (cor cs (i + 1)).1 := by grind
          rw [if_neg (by simpa using h')]
          refine ⟨_, ?_, some (.int (1 + i)), b, d, rfl⟩
          simp (disch := omega) [runF, FD.out, Fl.out, Fl.outL, lent, exec, ev, R.fl_ok, argF_ok, argF, argD_ok, argD, consD_ok, consD, preX, xopD, sopD, optJ, noX, mkO, lkp, optR, badd, bsub, bmul, bfdiv, bmod, bpow, baddl, baddt, cmpD, notR, negR, bltD, ixl, ixt, ixs, intR, eqD_ii, eqD_fr, eqD_ptt, mkT0, mkT1, mkT2, mkT3, mkT4, mkL0, mkL1, mkL2, mkL3, mkL4, atD0, atD1, atD2, atD3, ixfr0, ixfr1, cmpI, lot, pt, semN_lt, List.getElem?_cons_zero, List.getElem?_cons_succ, bindT, optF, f38b0, a2, ← hS, plus_s, minus_s, times_s, below_s, larger_s, lplus_s, lminus_s, lminus1_s, ltimes_s, lless_s, gap_s, weighed_s, most_s, lback_s, ltop_s, chkw_s, isnum_s, ispt_s, ispt_non_s, h]
        · have h' : x ≤ (cor cs (i + 1)).1 := by grind
          rw [if_pos (by simpa using h')]
          have ho := lover_p (a := x - (cor cs i).1) (b := (cor cs (i + 1)).1 - (cor cs i).1) (by grind) (by omega)
          simp (disch := omega) [runF, FD.out, Fl.out, Fl.outL, lent, exec, ev, R.fl_ok, argF_ok, argF, argD_ok, argD, consD_ok, consD, preX, xopD, sopD, optJ, noX, mkO, lkp, optR, badd, bsub, bmul, bfdiv, bmod, bpow, baddl, baddt, cmpD, notR, negR, bltD, ixl, ixt, ixs, intR, eqD_ii, eqD_fr, eqD_ptt, mkT0, mkT1, mkT2, mkT3, mkT4, mkL0, mkL1, mkL2, mkL3, mkL4, atD0, atD1, atD2, atD3, ixfr0, ixfr1, cmpI, lot, pt, semN_lt, List.getElem?_cons_zero, List.getElem?_cons_succ, bindT, optF, f38b0, a1, a2, ← hS, plus_s, minus_s, times_s, below_s, larger_s, lplus_s, lminus_s, lminus1_s, ltimes_s, lless_s, gap_s, weighed_s, most_s, lback_s, ltop_s, chkw_s, isnum_s, ispt_s, ispt_non_s, h, ho, seg]
    have r := rng1 (n := cs.length) (by omega) hn
    subst hS
    unfold hgt
    rw [if_pos h0]
    cases hf : (List.range (cs.length - 1)).find? fun k => decide (x ≤ (cor cs (k + 1)).1) with
    | some i =>
      rw [hf] at loop
      obtain ⟨e, h1⟩ := loop
      simp (disch := omega) [runF, FD.out, Fl.out, Fl.outL, lent, exec, ev, R.fl_ok, argF_ok, argF, argD_ok, argD, consD_ok, consD, preX, xopD, sopD, optJ, noX, mkO, lkp, optR, badd, bsub, bmul, bfdiv, bmod, bpow, baddl, baddt, cmpD, notR, negR, bltD, ixl, ixt, ixs, intR, eqD_ii, eqD_fr, eqD_ptt, mkT0, mkT1, mkT2, mkT3, mkT4, mkL0, mkL1, mkL2, mkL3, mkL4, atD0, atD1, atD2, atD3, ixfr0, ixfr1, cmpI, lot, pt, semN_lt, List.getElem?_cons_zero, List.getElem?_cons_succ, f38, plus_s, minus_s, times_s, below_s, larger_s, lplus_s, lminus_s, lminus1_s, ltimes_s, lless_s, gap_s, weighed_s, most_s, lback_s, ltop_s, chkw_s, isnum_s, ispt_s, ispt_non_s, r, h0, h1, atD_fcor hn]
    | none =>
      rw [hf] at loop
      obtain ⟨e, h1, a, b, d, rfl⟩ := loop
      simp (disch := omega) [runF, FD.out, Fl.out, Fl.outL, lent, exec, ev, R.fl_ok, argF_ok, argF, argD_ok, argD, consD_ok, consD, preX, xopD, sopD, optJ, noX, mkO, lkp, optR, badd, bsub, bmul, bfdiv, bmod, bpow, baddl, baddt, cmpD, notR, negR, bltD, ixl, ixt, ixs, intR, eqD_ii, eqD_fr, eqD_ptt, mkT0, mkT1, mkT2, mkT3, mkT4, mkL0, mkL1, mkL2, mkL3, mkL4, atD0, atD1, atD2, atD3, ixfr0, ixfr1, cmpI, lot, pt, semN_lt, List.getElem?_cons_zero, List.getElem?_cons_succ, f38, plus_s, minus_s, times_s, below_s, larger_s, lplus_s, lminus_s, lminus1_s, ltimes_s, lless_s, gap_s, weighed_s, most_s, lback_s, ltop_s, chkw_s, isnum_s, ispt_s, ispt_non_s, r, h0, h1, atD_fcor hn, atD_lcor hn]
  · subst hS
    unfold hgt
    rw [if_neg h0]
    simp (disch := omega) [runF, FD.out, Fl.out, Fl.outL, lent, exec, ev, R.fl_ok, argF_ok, argF, argD_ok, argD, consD_ok, consD, preX, xopD, sopD, optJ, noX, mkO, lkp, optR, badd, bsub, bmul, bfdiv, bmod, bpow, baddl, baddt, cmpD, notR, negR, bltD, ixl, ixt, ixs, intR, eqD_ii, eqD_fr, eqD_ptt, mkT0, mkT1, mkT2, mkT3, mkT4, mkL0, mkL1, mkL2, mkL3, mkL4, atD0, atD1, atD2, atD3, ixfr0, ixfr1, cmpI, lot, pt, semN_lt, List.getElem?_cons_zero, List.getElem?_cons_succ, f38, plus_s, minus_s, times_s, below_s, larger_s, lplus_s, lminus_s, lminus1_s, ltimes_s, lless_s, gap_s, weighed_s, most_s, lback_s, ltop_s, chkw_s, isnum_s, ispt_s, ispt_non_s, h0, atD_fcor hn]
theorem linch_ok {cs : List Pt} {p : Pt} {k m : Nat} (c : Ch cs) (hs : AllSp cs k) (hx : Sp p m) (hk : 16 * k + 3 * m + 20 < 9000) (hl : cs.length < 1000) :
    sem PP 39 [.lst (cs.map pt), .tup [fr p.1, fr p.2]] = .ok (.bl (inCh cs p)) := by
  have hh := lhigh_ok (x := p.1) c hs hx.a (by omega) hl
  rw [sem_eqN PP (j := 39) (F := f39) rfl]
  haveI := fun i => hs.i1 i
  haveI := zs_of hx.a
  haveI := zs_of hx.b
  haveI := zs_of (hgt_sz hs hx.a)
  have hn := c.pos
  unfold inCh
  by_cases h0 : (cor cs (cs.length - 1)).1 < p.1
  · simp (disch := omega) [runF, FD.out, Fl.out, Fl.outL, lent, exec, ev, R.fl_ok, argF_ok, argF, argD_ok, argD, consD_ok, consD, preX, xopD, sopD, optJ, noX, mkO, lkp, optR, badd, bsub, bmul, bfdiv, bmod, bpow, baddl, baddt, cmpD, notR, negR, bltD, ixl, ixt, ixs, intR, eqD_ii, eqD_fr, eqD_ptt, mkT0, mkT1, mkT2, mkT3, mkT4, mkL0, mkL1, mkL2, mkL3, mkL4, atD0, atD1, atD2, atD3, ixfr0, ixfr1, cmpI, lot, pt, semN_lt, List.getElem?_cons_zero, List.getElem?_cons_succ, f39, plus_s, minus_s, times_s, below_s, larger_s, lplus_s, lminus_s, lminus1_s, ltimes_s, lless_s, gap_s, weighed_s, most_s, lback_s, ltop_s, chkw_s, isnum_s, ispt_s, ispt_non_s, h0, atD_lcor hn]
  · simp (disch := omega) [runF, FD.out, Fl.out, Fl.outL, lent, exec, ev, R.fl_ok, argF_ok, argF, argD_ok, argD, consD_ok, consD, preX, xopD, sopD, optJ, noX, mkO, lkp, optR, badd, bsub, bmul, bfdiv, bmod, bpow, baddl, baddt, cmpD, notR, negR, bltD, ixl, ixt, ixs, intR, eqD_ii, eqD_fr, eqD_ptt, mkT0, mkT1, mkT2, mkT3, mkT4, mkL0, mkL1, mkL2, mkL3, mkL4, atD0, atD1, atD2, atD3, ixfr0, ixfr1, cmpI, lot, pt, semN_lt, List.getElem?_cons_zero, List.getElem?_cons_succ, f39, plus_s, minus_s, times_s, below_s, larger_s, lplus_s, lminus_s, lminus1_s, ltimes_s, lless_s, gap_s, weighed_s, most_s, lback_s, ltop_s, chkw_s, isnum_s, ispt_s, ispt_non_s, h0, atD_lcor hn, hh]
theorem linch_non {cs : List Pt} : sem PP 39 [.lst (cs.map pt), .non] = .ok (.bl false) := by
  rw [sem_eqN PP (j := 39) (F := f39) rfl]
  simp (disch := omega) [runF, FD.out, Fl.out, Fl.outL, lent, exec, ev, R.fl_ok, argF_ok, argF, argD_ok, argD, consD_ok, consD, preX, xopD, sopD, optJ, noX, mkO, lkp, optR, badd, bsub, bmul, bfdiv, bmod, bpow, baddl, baddt, cmpD, notR, negR, bltD, ixl, ixt, ixs, intR, eqD_ii, eqD_fr, eqD_ptt, mkT0, mkT1, mkT2, mkT3, mkT4, mkL0, mkL1, mkL2, mkL3, mkL4, atD0, atD1, atD2, atD3, ixfr0, ixfr1, cmpI, lot, pt, semN_lt, List.getElem?_cons_zero, List.getElem?_cons_succ, f39, plus_s, minus_s, times_s, below_s, larger_s, lplus_s, lminus_s, lminus1_s, ltimes_s, lless_s, gap_s, weighed_s, most_s, lback_s, ltop_s, chkw_s, isnum_s, ispt_s, ispt_non_s]
theorem lonr_ok {cs : List Pt} {p : Pt} {k m : Nat} (c : Ch cs) (hs : AllSp cs k) (hx : Sp p m) (hk : 16 * k + 3 * m + 20 < 9000) (hl : cs.length < 1000) :
    sem PP 40 [.lst (cs.map pt), .tup [fr p.1, fr p.2]] = .ok (.bl (onR cs p)) := by
  have hh := lhigh_ok (x := p.1) c hs hx.a (by omega) hl
  have hi := linch_ok c hs hx hk hl
  rw [sem_eqN PP (j := 40) (F := f40) rfl]
  have hn := c.pos
  unfold onR
  by_cases h0 : inCh cs p = true
  · by_cases h1 : p.1 = (cor cs (cs.length - 1)).1
    · simp (disch := omega) [runF, FD.out, Fl.out, Fl.outL, lent, exec, ev, R.fl_ok, argF_ok, argF, argD_ok, argD, consD_ok, consD, preX, xopD, sopD, optJ, noX, mkO, lkp, optR, badd, bsub, bmul, bfdiv, bmod, bpow, baddl, baddt, cmpD, notR, negR, bltD, ixl, ixt, ixs, intR, eqD_ii, eqD_fr, eqD_ptt, mkT0, mkT1, mkT2, mkT3, mkT4, mkL0, mkL1, mkL2, mkL3, mkL4, atD0, atD1, atD2, atD3, ixfr0, ixfr1, cmpI, lot, pt, semN_lt, List.getElem?_cons_zero, List.getElem?_cons_succ, f40, plus_s, minus_s, times_s, below_s, larger_s, lplus_s, lminus_s, lminus1_s, ltimes_s, lless_s, gap_s, weighed_s, most_s, lback_s, ltop_s, chkw_s, isnum_s, ispt_s, ispt_non_s, h0, h1, atD_lcor hn, hi]
      rw [← h1, hi]
      simp (disch := omega) [runF, FD.out, Fl.out, Fl.outL, lent, exec, ev, R.fl_ok, argF_ok, argF, argD_ok, argD, consD_ok, consD, preX, xopD, sopD, optJ, noX, mkO, lkp, optR, badd, bsub, bmul, bfdiv, bmod, bpow, baddl, baddt, cmpD, notR, negR, bltD, ixl, ixt, ixs, intR, eqD_ii, eqD_fr, eqD_ptt, mkT0, mkT1, mkT2, mkT3, mkT4, mkL0, mkL1, mkL2, mkL3, mkL4, atD0, atD1, atD2, atD3, ixfr0, ixfr1, cmpI, lot, pt, semN_lt, List.getElem?_cons_zero, List.getElem?_cons_succ, plus_s, minus_s, times_s, below_s, larger_s, lplus_s, lminus_s, lminus1_s, ltimes_s, lless_s, gap_s, weighed_s, most_s, lback_s, ltop_s, chkw_s, isnum_s, ispt_s, ispt_non_s, h0, h1, atD_lcor hn, hi]
    · simp (disch := omega) [runF, FD.out, Fl.out, Fl.outL, lent, exec, ev, R.fl_ok, argF_ok, argF, argD_ok, argD, consD_ok, consD, preX, xopD, sopD, optJ, noX, mkO, lkp, optR, badd, bsub, bmul, bfdiv, bmod, bpow, baddl, baddt, cmpD, notR, negR, bltD, ixl, ixt, ixs, intR, eqD_ii, eqD_fr, eqD_ptt, mkT0, mkT1, mkT2, mkT3, mkT4, mkL0, mkL1, mkL2, mkL3, mkL4, atD0, atD1, atD2, atD3, ixfr0, ixfr1, cmpI, lot, pt, semN_lt, List.getElem?_cons_zero, List.getElem?_cons_succ, f40, plus_s, minus_s, times_s, below_s, larger_s, lplus_s, lminus_s, lminus1_s, ltimes_s, lless_s, gap_s, weighed_s, most_s, lback_s, ltop_s, chkw_s, isnum_s, ispt_s, ispt_non_s, h0, h1, atD_lcor hn, hi, hh]
  · simp (disch := omega) [runF, FD.out, Fl.out, Fl.outL, lent, exec, ev, R.fl_ok, argF_ok, argF, argD_ok, argD, consD_ok, consD, preX, xopD, sopD, optJ, noX, mkO, lkp, optR, badd, bsub, bmul, bfdiv, bmod, bpow, baddl, baddt, cmpD, notR, negR, bltD, ixl, ixt, ixs, intR, eqD_ii, eqD_fr, eqD_ptt, mkT0, mkT1, mkT2, mkT3, mkT4, mkL0, mkL1, mkL2, mkL3, mkL4, atD0, atD1, atD2, atD3, ixfr0, ixfr1, cmpI, lot, pt, semN_lt, List.getElem?_cons_zero, List.getElem?_cons_succ, f40, plus_s, minus_s, times_s, below_s, larger_s, lplus_s, lminus_s, lminus1_s, ltimes_s, lless_s, gap_s, weighed_s, most_s, lback_s, ltop_s, chkw_s, isnum_s, ispt_s, ispt_non_s, h0, atD_lcor hn, hi]
theorem lonr_non {cs : List Pt} : sem PP 40 [.lst (cs.map pt), .non] = .ok (.bl false) := by
  have := linch_non (cs := cs)
  rw [sem_eqN PP (j := 40) (F := f40) rfl]
  simp (disch := omega) [runF, FD.out, Fl.out, Fl.outL, lent, exec, ev, R.fl_ok, argF_ok, argF, argD_ok, argD, consD_ok, consD, preX, xopD, sopD, optJ, noX, mkO, lkp, optR, badd, bsub, bmul, bfdiv, bmod, bpow, baddl, baddt, cmpD, notR, negR, bltD, ixl, ixt, ixs, intR, eqD_ii, eqD_fr, eqD_ptt, mkT0, mkT1, mkT2, mkT3, mkT4, mkL0, mkL1, mkL2, mkL3, mkL4, atD0, atD1, atD2, atD3, ixfr0, ixfr1, cmpI, lot, pt, semN_lt, List.getElem?_cons_zero, List.getElem?_cons_succ, f40, this]
theorem lloss_ok {cs : List Pt} {w : Rat} {k m : Nat} (c : Ch cs) (hs : AllSp cs k) (hw : Sz w m) (hk : 26 * k + 6 * m + 40 < 9000) (hl : cs.length < 1000) (w0 : 0 < w) (w1 : w < 1) :
    sem PP 31 [.lst (cs.map pt), fr w] = .ok (pt (lossP cs w)) := by
  have hn := c.pos
  rw [sem_eqN PP (j := 31) (F := f31) rfl]
  generalize hS : semN PP 31 = S
  haveI := fun i => hs.i1 i
  haveI := fun i => hs.i2 i
  haveI := zs_of hw
  have hk1 := hs.1
  have loop := forL_all (f := fun d e => optF (bindT (.nm 5) d e) fun e' => exec S e' f31b0) (enc := fun i : Nat => D.int (1 + i))
    (fun done env => ∃ a b c d e f, env = [some (.lst (cs.map pt)), some (fr w), some (.tup [fr (cor cs (cs.length - 1)).1, fr (cor cs 0).2]), some (.tup [fr w, fr (1 - w)]), some (fr (done.foldl (fun f k => mx f (lq cs w k)) 0)), a, b, c, d, e, f])
    (List.range (cs.length - 1)) [some (.lst (cs.map pt)), some (fr w), some (.tup [fr (cor cs (cs.length - 1)).1, fr (cor cs 0).2]), some (.tup [fr w, fr (1 - w)]), some (fr 0), none, none, none, none, none, none] ⟨none, none, none, none, none, none, rfl⟩ fun done x rest env e hI => by
      obtain ⟨a, b, d, f, g, i, rfl⟩ := hI
      have hx : x < cs.length - 1 := List.mem_range.mp (by rw [e]; simp)
      have hd := lq_den c w0 w1 (k := x) (by omega)
      have a1 := atD_cor (cs := cs) (i := 1 + (x : Int) - 1) (n := x) (by omega) (by omega)
      have a2 := atD_cor (cs := cs) (i := 1 + (x : Int)) (n := x + 1) (by omega) (by omega)
      have ho := lover_p (a := ((cor cs x).2 - (cor cs (x + 1)).2) * ((cor cs (cs.length - 1)).1 - (cor cs (x + 1)).1) + ((cor cs (x + 1)).1 - (cor cs x).1) * ((cor cs 0).2 - (cor cs (x + 1)).2)) (b := ((cor cs x).2 - (cor cs (x + 1)).2) * w + ((cor cs (x + 1)).1 - (cor cs x).1) * (1 - w)) (by grind) (by omega)
      rw [show (((cor cs x).2 - (cor cs (x + 1)).2) * ((cor cs (cs.length - 1)).1 - (cor cs (x + 1)).1) + ((cor cs (x + 1)).1 - (cor cs x).1) * ((cor cs 0).2 - (cor cs (x + 1)).2)) / (((cor cs x).2 - (cor cs (x + 1)).2) * w + ((cor cs (x + 1)).1 - (cor cs x).1) * (1 - w)) = lq' cs w x from rfl, lq_eq] at ho
      haveI := zs_of (lq_sz hs hw x)
      haveI := zs_of (foldl_sz (fun i => lq_sz hs hw i) done 0 (sz0 (by omega)))
      refine ⟨_, ?_, some (.int (1 + x)), some (fr ((cor cs x).2 - (cor cs (x + 1)).2)), some (fr ((cor cs (x + 1)).1 - (cor cs x).1)), some (pt ((cor cs (cs.length - 1)).1 - (cor cs (x + 1)).1, (cor cs 0).2 - (cor cs (x + 1)).2)), some (fr (((cor cs x).2 - (cor cs (x + 1)).2) * ((cor cs (cs.length - 1)).1 - (cor cs (x + 1)).1) + ((cor cs (x + 1)).1 - (cor cs x).1) * ((cor cs 0).2 - (cor cs (x + 1)).2))), some (fr (lq cs w x)), rfl⟩
      rw [List.foldl_append, List.foldl_cons, List.foldl_nil]
      generalize done.foldl (fun f k => mx f (lq cs w k)) 0 = far at this
      by_cases hlt : far < lq cs w x <;> simp (disch := omega) [runF, FD.out, Fl.out, Fl.outL, lent, exec, ev, R.fl_ok, argF_ok, argF, argD_ok, argD, consD_ok, consD, preX, xopD, sopD, optJ, noX, mkO, lkp, optR, badd, bsub, bmul, bfdiv, bmod, bpow, baddl, baddt, cmpD, notR, negR, bltD, ixl, ixt, ixs, intR, eqD_ii, eqD_fr, eqD_ptt, mkT0, mkT1, mkT2, mkT3, mkT4, mkL0, mkL1, mkL2, mkL3, mkL4, atD0, atD1, atD2, atD3, ixfr0, ixfr1, cmpI, lot, pt, semN_lt, List.getElem?_cons_zero, List.getElem?_cons_succ, bindT, optF, f31b0, a1, a2, ← hS, plus_s, minus_s, times_s, below_s, larger_s, lplus_s, lminus_s, lminus1_s, ltimes_s, lless_s, gap_s, weighed_s, most_s, lback_s, ltop_s, chkw_s, isnum_s, ispt_s, ispt_non_s, hn, ho, mx, hlt]
  obtain ⟨env', h1, a, b, d, f, g, i, rfl⟩ := loop
  haveI := zs_of (foldl_sz (fun i => lq_sz hs hw i) (List.range (cs.length - 1)) 0 (sz0 (by omega)))
  have r := rng1 (n := cs.length) (by omega) hn
  subst hS
  rw [fr0] at h1
  simp (disch := omega) [runF, FD.out, Fl.out, Fl.outL, lent, exec, ev, R.fl_ok, argF_ok, argF, argD_ok, argD, consD_ok, consD, preX, xopD, sopD, optJ, noX, mkO, lkp, optR, badd, bsub, bmul, bfdiv, bmod, bpow, baddl, baddt, cmpD, notR, negR, bltD, ixl, ixt, ixs, intR, eqD_ii, eqD_fr, eqD_ptt, mkT0, mkT1, mkT2, mkT3, mkT4, mkL0, mkL1, mkL2, mkL3, mkL4, atD0, atD1, atD2, atD3, ixfr0, ixfr1, cmpI, lot, pt, semN_lt, List.getElem?_cons_zero, List.getElem?_cons_succ, f31, plus_s, minus_s, times_s, below_s, larger_s, lplus_s, lminus_s, lminus1_s, ltimes_s, lless_s, gap_s, weighed_s, most_s, lback_s, ltop_s, chkw_s, isnum_s, ispt_s, ispt_non_s, r, h1, hn]
  simp [lossP, lfar]
theorem losses_r {cs : List Pt} {a b : Rat} {k l m : Nat} (hs : AllSp cs k) [A : Zs a l] [B : Zs b m] (h : 0 < cs.length) (h1 : k + l + 1 < 9000) (h2 : k + m + 1 < 9000) : sem PP 35 [lot cs, .tup [fr a, fr b]] = .ok (.tup [fr ((cor cs (cs.length - 1)).1 - a), fr ((cor cs 0).2 - b)]) := by
  haveI := fun i => hs.i1 i
  haveI := fun i => hs.i2 i
  rw [sem_eqN PP (j := 35) (F := f35) rfl]
  simp (disch := omega) [runF, FD.out, Fl.out, Fl.outL, lent, exec, ev, R.fl_ok, argF_ok, argF, argD_ok, argD, consD_ok, consD, preX, xopD, sopD, optJ, noX, mkO, lkp, optR, badd, bsub, bmul, bfdiv, bmod, bpow, baddl, baddt, cmpD, notR, negR, bltD, ixl, ixt, ixs, intR, eqD_ii, eqD_fr, eqD_ptt, mkT0, mkT1, mkT2, mkT3, mkT4, mkL0, mkL1, mkL2, mkL3, mkL4, atD0, atD1, atD2, atD3, ixfr0, ixfr1, cmpI, lot, pt, semN_lt, List.getElem?_cons_zero, List.getElem?_cons_succ, f35, plus_s, minus_s, times_s, below_s, larger_s, lplus_s, lminus_s, lminus1_s, ltimes_s, lless_s, gap_s, weighed_s, most_s, lback_s, ltop_s, chkw_s, isnum_s, ispt_s, ispt_non_s, h]

end Pv.K59

namespace Pv.K59
open PySem PySem.Spec PyProof.Rows L2
theorem turn_ok {f g : Nat → Int} {K : Nat} (hf : ∀ k, (f k).natAbs < 2 ^ K) (hg : ∀ k, (g k).natAbs < 2 ^ K) (hK : K < 100000) (a b c : Nat) : sem PP 15 [spt f g a, spt f g b, spt f g c] = .ok (.int (trI f g a b c)) := by
  have m1 : mulOk (f b - f a) (g c - g a) = true := mulOk_of (sub_sz (hf b) (hf a)) (sub_sz (hg c) (hg a)) (by omega)
  have m2 : mulOk (g b - g a) (f c - f a) = true := mulOk_of (sub_sz (hg b) (hg a)) (sub_sz (hf c) (hf a)) (by omega)
  rw [sem_eqN PP (j := 15) (F := f15) rfl]
  simp (disch := omega) [runF, FD.out, Fl.out, Fl.outL, lent, exec, ev, R.fl_ok, argF_ok, argF, argD_ok, argD, consD_ok, consD, preX, xopD, sopD, optJ, noX, mkO, lkp, optR, badd, bsub, bmul, bfdiv, bmod, bpow, baddl, baddt, cmpD, notR, negR, bltD, ixl, ixt, ixs, intR, eqD_ii, eqD_fr, eqD_ptt, mkT0, mkT1, mkT2, mkT3, mkT4, mkL0, mkL1, mkL2, mkL3, mkL4, atD0, atD1, atD2, atD3, ixfr0, ixfr1, cmpI, lot, pt, semN_lt, List.getElem?_cons_zero, List.getElem?_cons_succ, f15, spt, m1, m2, trI]
theorem spots_ok {pts : List Pt} {k L Mx My : Nat} (hs : AllSp pts k) (cd : CD pts Mx My L) (hL : L < 8999) (hk : k < 8999) (hl : pts.length < 1000) :
    sem PP 16 [.lst (pts.map pt)] = .ok (.lst ((List.range pts.length).map (spt (sX pts) (sY pts)))) := by
  rw [sem_eqN PP (j := 16) (F := f16) rfl]
  generalize hS : semN PP 16 = S
  have loop1 := forL_all (f := fun d e => optF (bindT (.tp (.cons (.nm 3) (.cons (.nm 4) .nil))) d e) fun e' => exec S e' f16b0) (enc := pt)
    (fun done env => ∃ a b, env = [some (.lst (pts.map pt)), some (.int (lcmX done : Nat)), some (.int (lcmY done : Nat)), a, b, none, none])
    pts [some (.lst (pts.map pt)), some (.int 1), some (.int 1), none, none, none, none] ⟨none, none, rfl⟩ fun done p rest env e hI => by
      obtain ⟨a, b, rfl⟩ := hI
      have hp : p ∈ pts := by rw [e]; simp
      have hsub : ∀ x ∈ done, x ∈ pts := fun x hx => by rw [e]; exact List.mem_append_left _ hx
      obtain ⟨f1, _, _⟩ := fold_lcm (fun p : Pt => p.1.den) (M := Mx) done 1 (Nat.one_dvd _) fun x hx => cd.x x (hsub x hx)
      obtain ⟨f2, _, _⟩ := fold_lcm (fun p : Pt => p.2.den) (M := My) done 1 (Nat.one_dvd _) fun x hx => cd.y x (hsub x hx)
      have c1 : (lcmX done).log2 < 8999 := log_lt (dvd_log f1 cd.x0 cd.xl) hL
      have c2 : (lcmY done).log2 < 8999 := log_lt (dvd_log f2 cd.y0 cd.yl) hL
      have c3 : p.1.den.log2 < 8999 := log_lt (hs.2 p hp).a.d hk
      have c4 : p.2.den.log2 < 8999 := log_lt (hs.2 p hp).b.d hk
      refine ⟨_, ?_, some (fr p.1), some (fr p.2), rfl⟩
      simp only [lcmX, lcmY] at c1 c2
      simp [runF, FD.out, Fl.out, Fl.outL, lent, exec, ev, R.fl_ok, argF_ok, argF, argD_ok, argD, consD_ok, consD, preX, xopD, sopD, optJ, noX, mkO, lkp, optR, badd, bsub, bmul, bfdiv, bmod, bpow, baddl, baddt, cmpD, notR, negR, bltD, ixl, ixt, ixs, intR, eqD_ii, eqD_fr, eqD_ptt, mkT0, mkT1, mkT2, mkT3, mkT4, mkL0, mkL1, mkL2, mkL3, mkL4, atD0, atD1, atD2, atD3, ixfr0, ixfr1, cmpI, lot, pt, semN_lt, List.getElem?_cons_zero, List.getElem?_cons_succ, bindT, optF, f16b0, c1, c2, c3, c4, lcmX, lcmY, List.foldl_append]
  obtain ⟨env1, h1, a, b, rfl⟩ := loop1
  obtain ⟨f1, _, g1⟩ := fold_lcm (fun p : Pt => p.1.den) (M := Mx) pts 1 (Nat.one_dvd _) cd.x
  obtain ⟨f2, _, g2⟩ := fold_lcm (fun p : Pt => p.2.den) (M := My) pts 1 (Nat.one_dvd _) cd.y
  change lcmX pts ∣ Mx at f1
  change lcmY pts ∣ My at f2
  have loop2 := forL_all (f := fun d e => optF (bindT (.tp (.cons (.nm 6) (.cons (.tp (.cons (.nm 3) (.cons (.nm 4) .nil))) .nil))) d e) fun e' => exec S e' f16b1) (enc := fun k : Nat => D.tup [.int (k : Int), pt (cor pts k)])
    (fun done env => ∃ a b c, env = [some (.lst (pts.map pt)), some (.int (lcmX pts : Nat)), some (.int (lcmY pts : Nat)), a, b, some (.lst (done.map (spt (sX pts) (sY pts)))), c])
    (List.range pts.length) [some (.lst (pts.map pt)), some (.int (lcmX pts : Nat)), some (.int (lcmY pts : Nat)), a, b, some (.lst []), none] ⟨a, b, none, rfl⟩ fun done x rest env e hI => by
      obtain ⟨a, b, c, rfl⟩ := hI
      have hx : x < pts.length := List.mem_range.mp (by rw [e]; simp)
      have hdl : done.length < lim := by
        have := congrArg List.length e
        simp at this
        unfold lim; omega
      have sp := hs.at_ x
      have d1 : divOk (((cor pts x).1.den : Nat) : Int) = true := divOk_of sp.a.d' (den_ne _) (by omega)
      have d2 : divOk (((cor pts x).2.den : Nat) : Int) = true := divOk_of sp.b.d' (den_ne _) (by omega)
      have e1 : ((lcmX pts : Nat) : Int).fdiv (((cor pts x).1.den : Nat) : Int) = ((lcmX pts / (cor pts x).1.den : Nat) : Int) := by rw [Int.fdiv_eq_ediv_of_nonneg _ (by omega)]; exact (Int.natCast_ediv _ _).symm
      have e2 : ((lcmY pts : Nat) : Int).fdiv (((cor pts x).2.den : Nat) : Int) = ((lcmY pts / (cor pts x).2.den : Nat) : Int) := by rw [Int.fdiv_eq_ediv_of_nonneg _ (by omega)]; exact (Int.natCast_ediv _ _).symm
      have m1 : mulOk (cor pts x).1.num ((lcmX pts / (cor pts x).1.den : Nat) : Int) = true := mulOk_of (k := k) (l := L) sp.a.n (Nat.lt_of_le_of_lt (Nat.div_le_self _ _) (dvd_log f1 cd.x0 cd.xl)) (by omega)
      have m2 : mulOk (cor pts x).2.num ((lcmY pts / (cor pts x).2.den : Nat) : Int) = true := mulOk_of (k := k) (l := L) sp.b.n (Nat.lt_of_le_of_lt (Nat.div_le_self _ _) (dvd_log f2 cd.y0 cd.yl)) (by omega)
      refine ⟨_, ?_, some (fr (cor pts x).1), some (fr (cor pts x).2), some (.int (x : Int)), rfl⟩
      simp [runF, FD.out, Fl.out, Fl.outL, lent, exec, ev, R.fl_ok, argF_ok, argF, argD_ok, argD, consD_ok, consD, preX, xopD, sopD, optJ, noX, mkO, lkp, optR, badd, bsub, bmul, bfdiv, bmod, bpow, baddl, baddt, cmpD, notR, negR, bltD, ixl, ixt, ixs, intR, eqD_ii, eqD_fr, eqD_ptt, mkT0, mkT1, mkT2, mkT3, mkT4, mkL0, mkL1, mkL2, mkL3, mkL4, atD0, atD1, atD2, atD3, ixfr0, ixfr1, cmpI, lot, pt, semN_lt, List.getElem?_cons_zero, List.getElem?_cons_succ, bindT, optF, f16b1, d1, d2, e1, e2, m1, m2, hdl, spt, sX, sY, -Int.natCast_ediv]
  obtain ⟨env2, h2, a, b, c, rfl⟩ := loop2
  have h3 := enu_map (pts := pts) pts 0 rfl
  rw [← List.range_eq_range'] at h3
  simp only [pt] at h2 h3
  simp [runF, FD.out, Fl.out, Fl.outL, lent, exec, ev, R.fl_ok, argF_ok, argF, argD_ok, argD, consD_ok, consD, preX, xopD, sopD, optJ, noX, mkO, lkp, optR, badd, bsub, bmul, bfdiv, bmod, bpow, baddl, baddt, cmpD, notR, negR, bltD, ixl, ixt, ixs, intR, eqD_ii, eqD_fr, eqD_ptt, mkT0, mkT1, mkT2, mkT3, mkT4, mkL0, mkL1, mkL2, mkL3, mkL4, atD0, atD1, atD2, atD3, ixfr0, ixfr1, cmpI, lot, pt, semN_lt, List.getElem?_cons_zero, List.getElem?_cons_succ, f16, itD, seqD, h1, h3, h2]
theorem pop_loop {f g : Nat → Int} {K : Nat} (hf : ∀ k, (f k).natAbs < 2 ^ K) (hg : ∀ k, (g k).natAbs < 2 ^ K) (hK : K < 100000) (X : Option D) (q : Nat) : ∀ rs : List Nat,
    whL (fun e => ev (semN PP 17) e f17w0) (fun e => exec (semN PP 17) e f17b0) [X, some (.lst (rs.reverse.map (spt f g))), some (spt f g q)] =
      .nx [X, some (.lst ((popI f g q rs).reverse.map (spt f g))), some (spt f g q)]
  | [] => by
    rw [whL_eq]
    simp [runF, FD.out, Fl.out, Fl.outL, lent, exec, ev, R.fl_ok, argF_ok, argF, argD_ok, argD, consD_ok, consD, preX, xopD, sopD, optJ, noX, mkO, lkp, optR, badd, bsub, bmul, bfdiv, bmod, bpow, baddl, baddt, cmpD, notR, negR, bltD, ixl, ixt, ixs, intR, eqD_ii, eqD_fr, eqD_ptt, mkT0, mkT1, mkT2, mkT3, mkT4, mkL0, mkL1, mkL2, mkL3, mkL4, atD0, atD1, atD2, atD3, ixfr0, ixfr1, cmpI, lot, pt, semN_lt, List.getElem?_cons_zero, List.getElem?_cons_succ, f17w0, popI]
  | [_] => by
    rw [whL_eq]
    simp [runF, FD.out, Fl.out, Fl.outL, lent, exec, ev, R.fl_ok, argF_ok, argF, argD_ok, argD, consD_ok, consD, preX, xopD, sopD, optJ, noX, mkO, lkp, optR, badd, bsub, bmul, bfdiv, bmod, bpow, baddl, baddt, cmpD, notR, negR, bltD, ixl, ixt, ixs, intR, eqD_ii, eqD_fr, eqD_ptt, mkT0, mkT1, mkT2, mkT3, mkT4, mkL0, mkL1, mkL2, mkL3, mkL4, atD0, atD1, atD2, atD3, ixfr0, ixfr1, cmpI, lot, pt, semN_lt, List.getElem?_cons_zero, List.getElem?_cons_succ, f17w0, popI]
  | a :: b :: r => by
    rw [whL_eq, popI]
    have ht := turn_ok hf hg hK b a q
    have ee : (a :: b :: r).reverse.map (spt f g) = (r.reverse.map (spt f g) ++ [spt f g b]) ++ [spt f g a] := by simp
    have ee2 : (r.reverse.map (spt f g) ++ [spt f g b]) ++ [spt f g a] = r.reverse.map (spt f g) ++ [spt f g b, spt f g a] := by simp
    have eb : (b :: r).reverse.map (spt f g) = r.reverse.map (spt f g) ++ [spt f g b] := by simp
    have l2 : (2 : Int) ≤ ((r.reverse.map (spt f g) ++ [spt f g b, spt f g a]).length : Int) := by simp; omega
    have cnd : ev (semN PP 17) [X, some (.lst ((r.reverse.map (spt f g) ++ [spt f g b]) ++ [spt f g a])), some (spt f g q)] f17w0 = .ok (.bl (decide (0 ≤ trI f g b a q))) := by
      have a1 := atD_e1 (r.reverse.map (spt f g) ++ [spt f g b]) (spt f g a)
      have a2 := atD_e2 (r.reverse.map (spt f g)) (spt f g b) (spt f g a)
      rw [ee2] at a1 ⊢
      generalize r.reverse.map (spt f g) ++ [spt f g b, spt f g a] = ds at a1 a2 l2
      have e22 : decide ((2 : Int) ≤ (ds.length : Int)) = true := decide_eq_true l2
      simp (disch := omega) [runF, FD.out, Fl.out, Fl.outL, lent, exec, ev, R.fl_ok, argF_ok, argF, argD_ok, argD, consD_ok, consD, preX, xopD, sopD, optJ, noX, mkO, lkp, optR, badd, bsub, bmul, bfdiv, bmod, bpow, baddl, baddt, cmpD, notR, negR, bltD, ixl, ixt, ixs, intR, eqD_ii, eqD_fr, eqD_ptt, mkT0, mkT1, mkT2, mkT3, mkT4, mkL0, mkL1, mkL2, mkL3, mkL4, atD0, atD1, atD2, atD3, ixfr0, ixfr1, cmpI, lot, pt, semN_lt, List.getElem?_cons_zero, List.getElem?_cons_succ, f17w0, a1, a2, ht, e22]
    rw [ee, cnd, R.fl_ok]
    by_cases h : 0 ≤ trI f g b a q
    · rw [if_pos h]
      have := pop_loop hf hg hK X q (b :: r)
      rw [eb] at this
      simp only [h, decide_true]
      have pb : exec (semN PP 17) [X, some (.lst ((r.reverse.map (spt f g) ++ [spt f g b]) ++ [spt f g a])), some (spt f g q)] f17b0 = .nx [X, some (.lst (r.reverse.map (spt f g) ++ [spt f g b])), some (spt f g q)] := by
        unfold f17b0
        simp only [exec, ev, argF_ok]
        rw [pop_ok (ys := r.reverse.map (spt f g) ++ [spt f g b]) (x := spt f g a) rfl]
        rfl
      rw [pb]
      exact this
    · rw [if_neg h]
      simp only [h, decide_false]
      rw [ee]
theorem drop_loop {f g : Nat → Int} (X Y : Option D) : ∀ rs : List Nat, rs.length < 1000 →
    whL (fun e => ev (semN PP 17) e f17w1) (fun e => exec (semN PP 17) e f17b2) [X, some (.lst (rs.map (spt f g))), Y] =
      .nx [X, some (.lst ((drpI g rs).map (spt f g))), Y]
  | [], _ => by
    rw [whL_eq]
    simp [runF, FD.out, Fl.out, Fl.outL, lent, exec, ev, R.fl_ok, argF_ok, argF, argD_ok, argD, consD_ok, consD, preX, xopD, sopD, optJ, noX, mkO, lkp, optR, badd, bsub, bmul, bfdiv, bmod, bpow, baddl, baddt, cmpD, notR, negR, bltD, ixl, ixt, ixs, intR, eqD_ii, eqD_fr, eqD_ptt, mkT0, mkT1, mkT2, mkT3, mkT4, mkL0, mkL1, mkL2, mkL3, mkL4, atD0, atD1, atD2, atD3, ixfr0, ixfr1, cmpI, lot, pt, semN_lt, List.getElem?_cons_zero, List.getElem?_cons_succ, f17w1, drpI]
  | [_], _ => by
    rw [whL_eq]
    simp [runF, FD.out, Fl.out, Fl.outL, lent, exec, ev, R.fl_ok, argF_ok, argF, argD_ok, argD, consD_ok, consD, preX, xopD, sopD, optJ, noX, mkO, lkp, optR, badd, bsub, bmul, bfdiv, bmod, bpow, baddl, baddt, cmpD, notR, negR, bltD, ixl, ixt, ixs, intR, eqD_ii, eqD_fr, eqD_ptt, mkT0, mkT1, mkT2, mkT3, mkT4, mkL0, mkL1, mkL2, mkL3, mkL4, atD0, atD1, atD2, atD3, ixfr0, ixfr1, cmpI, lot, pt, semN_lt, List.getElem?_cons_zero, List.getElem?_cons_succ, f17w1, drpI]
  | a :: b :: r, hl => by
    rw [whL_eq, drpI]
    have l2 : (2 : Int) ≤ (r.length : Int) + 1 + 1 := by omega
    by_cases h : g a ≤ g b
    · rw [if_pos h]
      have ih := drop_loop (f := f) (g := g) X Y (b :: r) (by simp at hl ⊢; omega)
      have hm : r.length + 1 ≤ lim := by simp at hl; unfold lim; omega
      rw [List.map_cons] at ih
      simp [runF, FD.out, Fl.out, Fl.outL, lent, exec, ev, R.fl_ok, argF_ok, argF, argD_ok, argD, consD_ok, consD, preX, xopD, sopD, optJ, noX, mkO, lkp, optR, badd, bsub, bmul, bfdiv, bmod, bpow, baddl, baddt, cmpD, notR, negR, bltD, ixl, ixt, ixs, intR, eqD_ii, eqD_fr, eqD_ptt, mkT0, mkT1, mkT2, mkT3, mkT4, mkL0, mkL1, mkL2, mkL3, mkL4, atD0, atD1, atD2, atD3, ixfr0, ixfr1, cmpI, lot, pt, semN_lt, List.getElem?_cons_zero, List.getElem?_cons_succ, f17w1, f17b2, l2, spt, h, slO, cutL1, mkL, hm]
      exact ih
    · rw [if_neg h]
      simp [runF, FD.out, Fl.out, Fl.outL, lent, exec, ev, R.fl_ok, argF_ok, argF, argD_ok, argD, consD_ok, consD, preX, xopD, sopD, optJ, noX, mkO, lkp, optR, badd, bsub, bmul, bfdiv, bmod, bpow, baddl, baddt, cmpD, notR, negR, bltD, ixl, ixt, ixs, intR, eqD_ii, eqD_fr, eqD_ptt, mkT0, mkT1, mkT2, mkT3, mkT4, mkL0, mkL1, mkL2, mkL3, mkL4, atD0, atD1, atD2, atD3, ixfr0, ixfr1, cmpI, lot, pt, semN_lt, List.getElem?_cons_zero, List.getElem?_cons_succ, f17w1, l2, spt, h]
theorem upper_ok {C pts : List Pt} {k L Mx My : Nat} (c : Ch C) (hs : AllSp pts k) (cd : CD pts Mx My L) (hin : ∀ p ∈ pts, InR C p) (hC : ∀ x ∈ C, x ∈ pts) (hL : L < 8999) (hk : k < 8999) (hl : pts.length < 64) :
    sem PP 17 [.lst (pts.map pt)] = .ok (.lst (C.map pt)) := by
  have hsp := spots_ok hs cd hL hk (by omega)
  have hC1 := C.length
  obtain ⟨f1, _, g1⟩ := fold_lcm (fun p : Pt => p.1.den) (M := Mx) pts 1 (Nat.one_dvd _) cd.x
  obtain ⟨f2, _, g2⟩ := fold_lcm (fun p : Pt => p.2.den) (M := My) pts 1 (Nat.one_dvd _) cd.y
  change lcmX pts ∣ Mx at f1
  change lcmY pts ∣ My at f2
  have dx : ∀ k, (cor pts k).1.den ∣ lcmX pts := fun i => by
    by_cases hi : i < pts.length
    · exact g1 _ (cor_mem hi)
    · unfold cor
      rw [List.getD_eq_getElem?_getD, List.getElem?_eq_none (by omega)]
      exact Nat.one_dvd _
  have dy : ∀ k, (cor pts k).2.den ∣ lcmY pts := fun i => by
    by_cases hi : i < pts.length
    · exact g2 _ (cor_mem hi)
    · unfold cor
      rw [List.getD_eq_getElem?_getD, List.getElem?_eq_none (by omega)]
      exact Nat.one_dvd _
  have W0 : 0 < lcmX pts := Nat.pos_of_dvd_of_pos f1 cd.x0
  have H0 : 0 < lcmY pts := Nat.pos_of_dvd_of_pos f2 cd.y0
  have ov : Over (cor pts) (sX pts) (sY pts) (lcmX pts : Nat) (lcmY pts : Nat) := ⟨by omega, by omega, fun i => rat_scale _ (dx i), fun i => rat_scale _ (dy i)⟩
  have bf : ∀ i, (sX pts i).natAbs < 2 ^ (k + L) := fun i => mul_sz (hs.at_ i).a.n (Nat.lt_of_le_of_lt (Nat.div_le_self _ _) (dvd_log f1 cd.x0 cd.xl))
  have bg : ∀ i, (sY pts i).natAbs < 2 ^ (k + L) := fun i => mul_sz (hs.at_ i).b.n (Nat.lt_of_le_of_lt (Nat.div_le_self _ _) (dvd_log f2 cd.y0 cd.yl))
  have hsrt := srt_ok (S := semN PP 17) (sX pts) (sY pts) (xs := List.range pts.length) (by simpa using hl)
  have hmem := mem_srtS (sX pts) (sY pts) (List.range pts.length)
  have hpw := pw_srtS (sX pts) (sY pts) (List.range pts.length)
  have hlen := len_srtS (sX pts) (sY pts) (List.range pts.length)
  rw [List.length_range] at hlen
  generalize hf : sX pts = f at *
  generalize hg : sY pts = g at *
  generalize srtS f g (List.range pts.length) = ix at *
  have fin := hull_eq (C := C) (qs := ix.map (cor pts)) c (fun p hp => by
      obtain ⟨i, hi, rfl⟩ := List.mem_map.mp hp
      exact hin _ (cor_mem (List.mem_range.mp ((hmem i).mp hi)))) (fun x hx => by
      obtain ⟨i, hi, e⟩ := mem_cor (hC x hx)
      exact List.mem_map.mpr ⟨i, (hmem i).mpr (List.mem_range.mpr hi), e.symm⟩)
      (List.pairwise_map.mpr (hpw.imp fun h => ov.lex h))
  rw [← ov.stk, ← List.map_reverse, ← ov.drop] at fin
  have lsk : ∀ qs : List Nat, (∀ i ∈ stkI f g qs, i ∈ qs) ∧ (stkI f g qs).length ≤ qs.length := by
    have go : ∀ (qs rs : List Nat), (∀ i ∈ qs.foldl (fun rs q => q :: popI f g q rs) rs, i ∈ rs ∨ i ∈ qs) ∧ (qs.foldl (fun rs q => q :: popI f g q rs) rs).length ≤ rs.length + qs.length := by
      intro qs
      induction qs with
      | nil => intro rs; simp
      | cons q qs ih =>
        intro rs
        obtain ⟨a1, a2⟩ := ih (q :: popI f g q rs)
        obtain ⟨b1, b2⟩ := popI_sub f g q rs
        rw [List.foldl_cons]
        refine ⟨fun i hi => ?_, by simp at a2 ⊢; omega⟩
        rcases a1 i hi with h | h
        · rcases List.mem_cons.mp h with h | h
          · rw [h]; simp
          · exact .inl (b1 i h)
        · exact .inr (List.mem_cons_of_mem _ h)
    intro qs
    have := go qs []
    simpa [stkI] using this
  rw [sem_eqN PP (j := 17) (F := f17) rfl]
  have loop := forL_all (f := fun d e => optF (bindT (.nm 2) d e) fun e' => exec (semN PP 17) e' f17b1) (enc := spt f g)
    (fun done env => ∃ a, env = [some (.lst (pts.map pt)), some (.lst ((stkI f g done).reverse.map (spt f g))), a])
    ix [some (.lst (pts.map pt)), some (.lst []), none] ⟨none, rfl⟩ fun done x rest env e hI => by
      obtain ⟨a, rfl⟩ := hI
      have hdl : (popI f g x (stkI f g done)).length < lim := by
        have h1 := congrArg List.length e
        simp at h1
        have h2 := (popI_sub f g x (stkI f g done)).2
        have h3 := (lsk done).2
        unfold lim; omega
      have pl := pop_loop bf bg (by omega) (some (.lst (pts.map pt))) x (stkI f g done)
      refine ⟨_, ?_, some (spt f g x), rfl⟩
      simp only [bindT, optF, f17b1, exec, ev, List.set_cons_succ, List.set_cons_zero, pl, Fl.andThen_nx, List.getElem?_cons_succ, List.getElem?_cons_zero, R.fl_ok]
      rw [if_pos (by simpa using hdl)]
      simp [stkI, List.foldl_append]
  obtain ⟨env1, h1, a, rfl⟩ := loop
  have hdl := drop_loop (f := f) (g := g) (some (.lst (pts.map pt))) a (stkI f g ix).reverse (by have := (lsk ix).2; simp; omega)
  have hsub : ∀ i ∈ drpI g (stkI f g ix).reverse, i < pts.length := fun i hi => by
    have := (drpI_sub g _).1 i hi
    exact List.mem_range.mp ((hmem i).mp ((lsk ix).1 i (List.mem_reverse.mp this)))
  have hle : (drpI g (stkI f g ix).reverse).length ≤ lim := by
    have h1 := (drpI_sub g (stkI f g ix).reverse).2
    have h2 := (lsk ix).2
    rw [List.length_reverse] at h1
    unfold lim; omega
  have hm := mapO_lc (S := semN PP 17) (env := [some (.lst (pts.map pt)), some (.lst ((drpI g (stkI f g ix).reverse).map (spt f g))), a]) (e := f17e0) (t := .nm 2) (enc := spt f g) (g := fun i => pt (cor pts i)) (xs := drpI g (stkI f g ix).reverse) fun i hi => by
    have a1 := atD_cor (cs := pts) (i := (i : Int)) (n := i) (hsub i hi) rfl
    refine ⟨_, rfl, ?_⟩
    simp [runF, FD.out, Fl.out, Fl.outL, lent, exec, ev, R.fl_ok, argF_ok, argF, argD_ok, argD, consD_ok, consD, preX, xopD, sopD, optJ, noX, mkO, lkp, optR, badd, bsub, bmul, bfdiv, bmod, bpow, baddl, baddt, cmpD, notR, negR, bltD, ixl, ixt, ixs, intR, eqD_ii, eqD_fr, eqD_ptt, mkT0, mkT1, mkT2, mkT3, mkT4, mkL0, mkL1, mkL2, mkL3, mkL4, atD0, atD1, atD2, atD3, ixfr0, ixfr1, cmpI, lot, pt, semN_lt, List.getElem?_cons_zero, List.getElem?_cons_succ, Tg.own, wipeE, f17e0, spt, a1]
  have he : (drpI g (stkI f g ix).reverse).map (fun i => pt (cor pts i)) = C.map pt := by rw [← fin, List.map_map]; rfl
  rw [he] at hm
  have hq : ∀ ys, xopD (semN PP 17) .srt ys = xopD (semN PP 17) .srt ys := fun _ => rfl
  simp (disch := omega) only [runF, FD.out, f17, exec, ev, R.fl_ok, consD_ok, argD_ok, mkL0, semN_lt, hsp, List.length_cons, List.length_nil, if_true, List.map_cons, List.map_nil, List.replicate, List.cons_append, List.nil_append, List.set_cons_succ, List.set_cons_zero, List.getElem?_cons_zero, List.getElem?_cons_succ, Fl.andThen_nx, preX, hsrt, itD, seqD, h1, hdl, lcD, List.length_map, hle, hm, Fl.andThen_rt, Fl.out]
theorem lotI_ok {C pts : List Pt} {k L Mx My : Nat} (c : Ch C) (hs : AllSp pts k) (cd : CD pts Mx My L) (hin : ∀ p ∈ pts, InR C p) (hC : ∀ x ∈ C, x ∈ pts) (hL : L < 8999) (hk : k < 8999) (hl : pts.length < 64) :
    sem PP 18 [.obj (Str.ofString "Lot") [] [], .lst (pts.map pt)] = .ok (.tup [.non, lot C]) := by
  have hu := upper_ok c hs cd hin hC hL hk hl
  have hne : ¬ (pts.length : Int) = 0 := by
    intro z
    have h1 := hC _ (cor_mem c.pos)
    cases pts with
    | nil => simp at h1
    | cons _ _ => simp at z; omega
  have hne' : ¬ pts = [] := by
    intro z
    rw [z] at hne
    exact hne rfl
  rw [sem_eqN PP (j := 18) (F := f18) rfl]
  simp (disch := omega) [runF, FD.out, Fl.out, Fl.outL, lent, exec, ev, R.fl_ok, argF_ok, argF, argD_ok, argD, consD_ok, consD, preX, xopD, sopD, optJ, noX, mkO, lkp, optR, badd, bsub, bmul, bfdiv, bmod, bpow, baddl, baddt, cmpD, notR, negR, bltD, ixl, ixt, ixs, intR, eqD_ii, eqD_fr, eqD_ptt, mkT0, mkT1, mkT2, mkT3, mkT4, mkL0, mkL1, mkL2, mkL3, mkL4, atD0, atD1, atD2, atD3, ixfr0, ixfr1, cmpI, lot, pt, semN_lt, List.getElem?_cons_zero, List.getElem?_cons_succ, f18, hu, hne', putN, putD]
theorem lotI_tup {C pts : List Pt} {k L Mx My : Nat} (c : Ch C) (hs : AllSp pts k) (cd : CD pts Mx My L) (hin : ∀ p ∈ pts, InR C p) (hC : ∀ x ∈ C, x ∈ pts) (hL : L < 8999) (hk : k < 8999) (hl : pts.length < 64) :
    sem PP 18 [.obj (Str.ofString "Lot") [] [], .tup (pts.map pt)] = .ok (.tup [.non, lot C]) := by
  have hu := upper_ok c hs cd hin hC hL hk hl
  have hne : ¬ pts = [] := by
    intro z
    have h1 := hC _ (cor_mem c.pos)
    rw [z] at h1
    simp at h1
  rw [sem_eqN PP (j := 18) (F := f18) rfl]
  simp (disch := omega) [runF, FD.out, Fl.out, Fl.outL, lent, exec, ev, R.fl_ok, argF_ok, argF, argD_ok, argD, consD_ok, consD, preX, xopD, sopD, optJ, noX, mkO, lkp, optR, badd, bsub, bmul, bfdiv, bmod, bpow, baddl, baddt, cmpD, notR, negR, bltD, ixl, ixt, ixs, intR, eqD_ii, eqD_fr, eqD_ptt, mkT0, mkT1, mkT2, mkT3, mkT4, mkL0, mkL1, mkL2, mkL3, mkL4, atD0, atD1, atD2, atD3, ixfr0, ixfr1, cmpI, lot, pt, semN_lt, List.getElem?_cons_zero, List.getElem?_cons_succ, f18, hu, hne, putN, putD]

end Pv.K59

namespace Pv.K59
open PySem PySem.Spec PyProof.Rows L2
theorem lossp_bad {cs : List Pt} {w : Rat} {m : Nat} (hw : Sz w m) (hm : m < 9000) (h : ¬ (0 < w ∧ w < 1)) : sem PP 12 [lot cs, fr w] = .ex (Str.ofString "BadWeight") [] := by
  have hcw := chkw_s (w := w) (A := ⟨hw⟩) (by omega)
  rw [if_neg h] at hcw
  rw [sem_eqN PP (j := 12) (F := f12) rfl]
  simp (disch := omega) [runF, FD.out, Fl.out, Fl.outL, lent, exec, ev, R.fl_ok, argF_ok, argF, argD_ok, argD, consD_ok, consD, preX, xopD, sopD, optJ, noX, mkO, lkp, optR, badd, bsub, bmul, bfdiv, bmod, bpow, baddl, baddt, cmpD, notR, negR, bltD, ixl, ixt, ixs, intR, eqD_ii, eqD_fr, eqD_ptt, mkT0, mkT1, mkT2, mkT3, mkT4, mkL0, mkL1, mkL2, mkL3, mkL4, atD0, atD1, atD2, atD3, ixfr0, ixfr1, cmpI, lot, pt, semN_lt, List.getElem?_cons_zero, List.getElem?_cons_succ, f12, hcw]
theorem lruleI_ok {w : Rat} {m : Nat} (hw : Sz w m) (hm : m < 9000) (h : 0 < w ∧ w < 1) : sem PP 14 [.obj (Str.ofString "LossRule") [] [], fr w] = .ok (.tup [.non, .obj (Str.ofString "LossRule") [Str.ofString "weight"] [fr w]]) := by
  have hcw := chkw_s (w := w) (A := ⟨hw⟩) (by omega)
  rw [if_pos h] at hcw
  rw [sem_eqN PP (j := 14) (F := f14) rfl]
  simp (disch := omega) [runF, FD.out, Fl.out, Fl.outL, lent, exec, ev, R.fl_ok, argF_ok, argF, argD_ok, argD, consD_ok, consD, preX, xopD, sopD, optJ, noX, mkO, lkp, optR, badd, bsub, bmul, bfdiv, bmod, bpow, baddl, baddt, cmpD, notR, negR, bltD, ixl, ixt, ixs, intR, eqD_ii, eqD_fr, eqD_ptt, mkT0, mkT1, mkT2, mkT3, mkT4, mkL0, mkL1, mkL2, mkL3, mkL4, atD0, atD1, atD2, atD3, ixfr0, ixfr1, cmpI, lot, pt, semN_lt, List.getElem?_cons_zero, List.getElem?_cons_succ, f14, hcw, putN, putD]
theorem lruleI_bad {w : Rat} {m : Nat} (hw : Sz w m) (hm : m < 9000) (h : ¬ (0 < w ∧ w < 1)) : sem PP 14 [.obj (Str.ofString "LossRule") [] [], fr w] = .ex (Str.ofString "BadWeight") [] := by
  have hcw := chkw_s (w := w) (A := ⟨hw⟩) (by omega)
  rw [if_neg h] at hcw
  rw [sem_eqN PP (j := 14) (F := f14) rfl]
  simp (disch := omega) [runF, FD.out, Fl.out, Fl.outL, lent, exec, ev, R.fl_ok, argF_ok, argF, argD_ok, argD, consD_ok, consD, preX, xopD, sopD, optJ, noX, mkO, lkp, optR, badd, bsub, bmul, bfdiv, bmod, bpow, baddl, baddt, cmpD, notR, negR, bltD, ixl, ixt, ixs, intR, eqD_ii, eqD_fr, eqD_ptt, mkT0, mkT1, mkT2, mkT3, mkT4, mkL0, mkL1, mkL2, mkL3, mkL4, atD0, atD1, atD2, atD3, ixfr0, ixfr1, cmpI, lot, pt, semN_lt, List.getElem?_cons_zero, List.getElem?_cons_succ, f14, hcw]
theorem lruleC_ok {cs : List Pt} {w : Rat} {k m : Nat} (c : Ch cs) (hs : AllSp cs k) (hw : Sz w m) (hk : 26 * k + 6 * m + 30 < 9000) (hl : cs.length < 1000) (w0 : 0 < w) (w1 : w < 1) :
    sem PP 13 [.obj (Str.ofString "LossRule") [Str.ofString "weight"] [fr w], lot cs] = .ok (pt (lossP cs w)) := by
  have h := lossp_ok c hs hw hk hl w0 w1
  rw [sem_eqN PP (j := 13) (F := f13) rfl]
  simp only [lot] at h
  simp (disch := omega) [runF, FD.out, Fl.out, Fl.outL, lent, exec, ev, R.fl_ok, argF_ok, argF, argD_ok, argD, consD_ok, consD, preX, xopD, sopD, optJ, noX, mkO, lkp, optR, badd, bsub, bmul, bfdiv, bmod, bpow, baddl, baddt, cmpD, notR, negR, bltD, ixl, ixt, ixs, intR, eqD_ii, eqD_fr, eqD_ptt, mkT0, mkT1, mkT2, mkT3, mkT4, mkL0, mkL1, mkL2, mkL3, mkL4, atD0, atD1, atD2, atD3, ixfr0, ixfr1, cmpI, lot, pt, semN_lt, List.getElem?_cons_zero, List.getElem?_cons_succ, f13, h]
theorem word_weight : sem PP 33 [.exc (Str.ofString "BadWeight") []] = .ok (.tup [.str (Str.ofString "weight"), .int 0]) := by
  rw [sem_eqN PP (j := 33) (F := f33) rfl]
  rfl

end Pv.K59

namespace Pv.K59
open PySem PySem.Spec PyProof.Rows L2
theorem right_ok {cs : List Pt} {w : Rat} {k m : Nat} (c : Ch cs) (hs : AllSp cs k) (hw : Sz w m) (hk : 60 * k + 20 * m + 150 < 9000) (hl : cs.length < 1000) (w0 : 0 < w) (w1 : w < 1) :
    sem PP 41 [lot cs, .lst (cs.map pt), fr w, pt (lossP cs w)] = .ok (.bl true) := by
  have hr := lonr_ok (p := lossP cs w) c hs (lossP_sz hs hw) (by omega) hl
  rw [lossP_rim c w0 w1] at hr
  have hll := lloss_ok c hs hw (by omega) hl w0 w1
  have hn := c.pos
  have hls := losses_r (a := (lossP cs w).1) (b := (lossP cs w).2) (A := ⟨(lossP_sz hs hw).a⟩) (B := ⟨(lossP_sz hs hw).b⟩) hs hn (by omega) (by omega)
  haveI := fun i => hs.i1 i
  haveI := fun i => hs.i2 i
  haveI := zs_of hw
  haveI := zs_of (lossP_sz hs hw).a
  haveI := zs_of (lossP_sz hs hw).b
  have f0 := lfar_nonneg (cs := cs) (w := w)
  have e1 : (cor cs (cs.length - 1)).1 - (lossP cs w).1 = lfar cs w * w := by unfold lossP; grind
  have e2 : (cor cs 0).2 - (lossP cs w).2 = lfar cs w * (1 - w) := by unfold lossP; grind
  have n1 : 0 ≤ ((cor cs (cs.length - 1)).1 - (lossP cs w).1).num := by
    rw [e1]; exact Rat.num_nonneg.mpr (Rat.mul_nonneg f0 (Rat.le_of_lt w0))
  have n2 : 0 ≤ ((cor cs 0).2 - (lossP cs w).2).num := by
    rw [e2]; exact Rat.num_nonneg.mpr (Rat.mul_nonneg f0 (by grind))
  have n1' : ¬ ((cor cs (cs.length - 1)).1 - (lossP cs w).1).num < 0 := by omega
  have n2' : ¬ ((cor cs 0).2 - (lossP cs w).2).num < 0 := by omega
  have e3 : ((cor cs (cs.length - 1)).1 - (lossP cs w).1) * (1 - w) = ((cor cs 0).2 - (lossP cs w).2) * w := by rw [e1, e2]; grind
  have c1 := ltimes_s (a := (cor cs (cs.length - 1)).1 - (lossP cs w).1) (b := 1 - w) (by omega)
  rw [e3] at c1
  rw [sem_eqN PP (j := 41) (F := f41) rfl]
  simp only [lot, pt] at hls hll
  have hne : ¬ Str.ofString "losses" = Str.ofString "frontier" := by decide
  simp (disch := omega) [runF, FD.out, Fl.out, Fl.outL, lent, exec, ev, R.fl_ok, argF_ok, argF, argD_ok, argD, consD_ok, consD, preX, xopD, sopD, optJ, noX, mkO, lkp, optR, badd, bsub, bmul, bfdiv, bmod, bpow, baddl, baddt, cmpD, notR, negR, bltD, ixl, ixt, ixs, intR, eqD_ii, eqD_fr, eqD_ptt, mkT0, mkT1, mkT2, mkT3, mkT4, mkL0, mkL1, mkL2, mkL3, mkL4, atD0, atD1, atD2, atD3, ixfr0, ixfr1, cmpI, lot, pt, semN_lt, List.getElem?_cons_zero, List.getElem?_cons_succ, f41, plus_s, minus_s, times_s, below_s, larger_s, lplus_s, lminus_s, lminus1_s, ltimes_s, lless_s, gap_s, weighed_s, most_s, lback_s, ltop_s, chkw_s, isnum_s, ispt_s, ispt_non_s, hne, hr, hn, n1', n2', c1, hll, hls]
theorem f99 : fr (1 / 99) = .tup [.int 1, .int 99] := by
  unfold fr
  rw [show ((1 : Rat) / 99).num = 1 by decide +kernel, show ((1 : Rat) / 99).den = 99 by decide +kernel]; rfl
theorem f98 : fr (98 / 99) = .tup [.int 98, .int 99] := by
  unfold fr
  rw [show ((98 : Rat) / 99).num = 98 by decide +kernel, show ((98 : Rat) / 99).den = 99 by decide +kernel]; rfl
theorem fm13 : fr (-1 / 3) = .tup [.int (-1), .int 3] := by
  unfold fr
  rw [show ((-1 : Rat) / 3).num = -1 by decide +kernel, show ((-1 : Rat) / 3).den = 3 by decide +kernel]; rfl
theorem f43' : fr (4 / 3) = .tup [.int 4, .int 3] := by
  unfold fr
  rw [show ((4 : Rat) / 3).num = 4 by decide +kernel, show ((4 : Rat) / 3).den = 3 by decide +kernel]; rfl
/-- a drawn weight -/
theorem weight_in {n d : Int} (h1 : 0 < n) (h2 : n < d) : 0 < Rat.divInt n d ∧ Rat.divInt n d < 1 := by
  rw [Rat.divInt_eq_div]
  have hd : (0 : Rat) < d := Rat.intCast_pos.mpr (by omega)
  have hn : (0 : Rat) < n := Rat.intCast_pos.mpr h1
  have hl : (n : Rat) < d := Rat.intCast_lt_intCast.mpr h2
  refine ⟨div_pos hn hd, ?_⟩
  have := div_lt (a := (n : Rat)) (b := d) (c := 1) (d := 1) hd (by decide +kernel) (by grind)
  have e : (1 : Rat) / 1 = 1 := by decide +kernel
  rw [e] at this
  exact this
theorem mkL5 (a b c d e : D) : mkL [a, b, c, d, e] = .ok (.lst [a, b, c, d, e]) := rfl
/-- a weight's turn -/
def lastD : List Rat → List Pt → D
  | [], _ => .non
  | w :: ws, cs => pt (lossP cs ((w :: ws).getLast (by simp)))
set_option maxHeartbeats 0 in
theorem math (ns : List Int) (h : ns.length ≤ 63) (hb : ∀ z ∈ ns, Builtin.Int.intBits z ≤ 1048576) : sem PP 46 [.scr ns] = .ok (.bl true) := by
  have cl := fun k : Nat => cell_ok (P := PP) (j := 21) rfl ns k
  have cl0 : sem PP 21 [.scr ns, .int 0] = .ok (.int (ns.getD 0 0)) := cl 0
  have cl1 : sem PP 21 [.scr ns, .int 1] = .ok (.int (ns.getD 1 0)) := cl 1
  have cl2 : sem PP 21 [.scr ns, .int 2] = .ok (.int (ns.getD 2 0)) := cl 2
  have cl3 : sem PP 21 [.scr ns, .int 3] = .ok (.int (ns.getD 3 0)) := cl 3
  generalize ns.getD 0 0 = c0 at cl0
  generalize ns.getD 1 0 = c1 at cl1
  generalize ns.getD 2 0 = c2 at cl2
  generalize ns.getD 3 0 = c3 at cl3
  obtain ⟨w, ow, hw⟩ := world_ok c0
  have hcor := corners_ok ow
  have hlot := lotI_ok ow.ch ow.sz ow.cd ow.ch.self_in (fun _ h => h) (by omega) (by omega) (by rw [wCs_len]; have := ow.len; omega)
  have hch := ow.ch
  have hsz := ow.sz
  have hlen : (wCs w).length < 1000 := by rw [wCs_len]; have := ow.len; omega
  generalize wCs w = cs at *
  -- the weights
  have b1 := emod_bd c1 11 (by decide)
  have b2 := emod_bd c2 1000000000000000000000000000000 (by decide)
  obtain ⟨d, hd⟩ : ∃ d : Int, d = 2 + c2.fmod 1000000000000000000000000000000 := ⟨_, rfl⟩
  have b3 := emod_bd c3 (d - 1) (by omega)
  have p30 : powOk 10 30 = true := by decide
  have e30' : (10 : Int) ^ (30 : Int).toNat = 1000000000000000000000000000000 := by decide
  have hd2 : d.natAbs < 2 ^ 101 := by omega
  have k1 := mkW (1 + c1.fmod 11) 12 5 (by omega) (by omega) (by omega) (by omega)
  have k2 := mkW (1 + c3.fmod (d - 1)) d 101 (by omega) (by omega) hd2 (by omega)
  have i1 := weight_in (n := 1 + c1.fmod 11) (d := 12) (by omega) (by omega)
  have i2 := weight_in (n := 1 + c3.fmod (d - 1)) (d := d) (by omega) (by omega)
  have s1 : Sz (Rat.divInt (1 + c1.fmod 11) 12) 101 := (sz_divInt (n := 1 + c1.fmod 11) (d := 12) (k := 5) (by omega) (by omega) (by omega)).mono (by omega)
  have s2 : Sz (Rat.divInt (1 + c3.fmod (d - 1)) d) 101 := sz_divInt (by omega) (by omega) hd2
  generalize Rat.divInt (1 + c1.fmod 11) 12 = w1 at *
  generalize Rat.divInt (1 + c3.fmod (d - 1)) d = w2 at *
  have hws : ∀ q ∈ [w1, w2, 1 / 2, 1 / 99, 98 / 99], Sz q 101 ∧ 0 < q ∧ q < 1 := by
    intro q hq
    simp only [List.mem_cons, List.not_mem_nil, or_false] at hq
    rcases hq with rfl | rfl | rfl | rfl | rfl
    · exact ⟨s1, i1⟩
    · exact ⟨s2, i2⟩
    · exact ⟨⟨by decide +kernel, by decide +kernel⟩, by decide +kernel, by decide +kernel⟩
    · exact ⟨⟨by decide +kernel, by decide +kernel⟩, by decide +kernel, by decide +kernel⟩
    · exact ⟨⟨by decide +kernel, by decide +kernel⟩, by decide +kernel, by decide +kernel⟩
  have hasc := asc_r (xs := [w1, w2, 1 / 2, 1 / 99, 98 / 99]) (fun q hq => (hws q hq).1) (by omega) (by simp)
  obtain ⟨a1, a2, a3⟩ := asc_ok [w1, w2, 1 / 2, 1 / 99, 98 / 99]
  simp only [List.map_cons, List.map_nil, f99, f98, frH] at hasc
  have hall : ∀ q ∈ asc [w1, w2, 1 / 2, 1 / 99, 98 / 99], Sz q 101 ∧ 0 < q ∧ q < 1 := fun q hq => hws q ((a2 q).mp hq)
  generalize asc [w1, w2, 1 / 2, 1 / 99, 98 / 99] = ws at *
  rw [sem_eqN PP (j := 46) (F := f46) rfl]
  have hlt : ∀ j, j < 46 → semN PP 46 j = sem PP j := fun j h => semN_lt _ h
  have loop := forL_all (f := fun d e => optF (bindT (.nm 6) d e) fun e' => exec (semN PP 46) e' f46b0) (enc := fr)
    (fun done env => ∃ a b f, env = [some (.scr ns), some (.lst (cs.map pt)), some (lot cs), some (.lst [fr w1, fr w2]), some (.int d), some (lastD done cs), a, none, none, b, f])
    ws [some (.scr ns), some (.lst (cs.map pt)), some (lot cs), some (.lst [fr w1, fr w2]), some (.int d), some .non, none, none, none, none, none] ⟨none, none, none, rfl⟩ fun done x rest env e hI => by
      obtain ⟨a, b, f, rfl⟩ := hI
      have hx : x ∈ ws := by rw [e]; simp
      obtain ⟨x1, x2, x3⟩ := hall x hx
      have lp := lossp_ok hch hsz x1 (by omega) hlen x2 x3
      have rI := lruleI_ok x1 (by omega) ⟨x2, x3⟩
      have rC := lruleC_ok hch hsz x1 (by omega) hlen x2 x3
      have rt := right_ok hch hsz x1 (by omega) hlen x2 x3
      have hlast : lastD (done ++ [x]) cs = pt (lossP cs x) := by
        cases done with
        | nil => rfl
        | cons y ys =>
          show pt (lossP cs (((y :: ys) ++ [x]).getLast (by simp))) = _
          rw [List.getLast_concat]
      haveI := zs_of (lossP_sz hsz x1).a
      haveI := zs_of (lossP_sz hsz x1).b
      refine ⟨_, ?_, some (fr x), some (pt (lossP cs x)), some (.obj (Str.ofString "LossRule") [Str.ofString "weight"] [fr x]), rfl⟩
      rw [hlast]
      cases done with
      | nil =>
        simp only [lot, pt] at lp rI rC rt
        simp (disch := omega) [runF, FD.out, Fl.out, Fl.outL, lent, exec, ev, R.fl_ok, argF_ok, argF, argD_ok, argD, consD_ok, consD, preX, xopD, sopD, optJ, noX, mkO, lkp, optR, badd, bsub, bmul, bfdiv, bmod, bpow, baddl, baddt, cmpD, notR, negR, bltD, ixl, ixt, ixs, intR, eqD_ii, eqD_fr, eqD_ptt, mkT0, mkT1, mkT2, mkT3, mkT4, mkL0, mkL1, mkL2, mkL3, mkL4, atD0, atD1, atD2, atD3, ixfr0, ixfr1, cmpI, lot, pt, semN_lt, List.getElem?_cons_zero, List.getElem?_cons_succ, bindT, optF, f46b0, plus_s, minus_s, times_s, below_s, larger_s, lplus_s, lminus_s, lminus1_s, ltimes_s, lless_s, gap_s, weighed_s, most_s, lback_s, ltop_s, chkw_s, isnum_s, ispt_s, ispt_non_s, lp, rI, rC, rt, lastD]
      | cons y ys =>
        have hy := List.getLast_mem (l := y :: ys) (by simp)
        have hyw : (y :: ys).getLast (by simp) ∈ ws := by rw [e]; exact List.mem_append_left _ hy
        have hle : (y :: ys).getLast (by simp) ≤ x := by
          rw [e] at a1
          exact (List.pairwise_append.mp a1).2.2 _ hy x List.mem_cons_self
        obtain ⟨y1, y2, y3⟩ := hall _ hyw
        have hmono := lossP_mono hch y2 hle x3
        have hld : lastD (y :: ys) cs = pt (lossP cs ((y :: ys).getLast (by simp))) := rfl
        rw [hld]
        generalize (y :: ys).getLast (by simp) = z at *
        haveI := zs_of (lossP_sz hsz y1).a
        haveI := zs_of (lossP_sz hsz y1).b
        have g1 : ¬ (lossP cs z).1 < (lossP cs x).1 := by grind
        have g2 : ¬ (lossP cs x).2 < (lossP cs z).2 := by grind
        simp only [lot, pt] at lp rI rC rt
        simp (disch := omega) [runF, FD.out, Fl.out, Fl.outL, lent, exec, ev, R.fl_ok, argF_ok, argF, argD_ok, argD, consD_ok, consD, preX, xopD, sopD, optJ, noX, mkO, lkp, optR, badd, bsub, bmul, bfdiv, bmod, bpow, baddl, baddt, cmpD, notR, negR, bltD, ixl, ixt, ixs, intR, eqD_ii, eqD_fr, eqD_ptt, mkT0, mkT1, mkT2, mkT3, mkT4, mkL0, mkL1, mkL2, mkL3, mkL4, atD0, atD1, atD2, atD3, ixfr0, ixfr1, cmpI, lot, pt, semN_lt, List.getElem?_cons_zero, List.getElem?_cons_succ, bindT, optF, f46b0, plus_s, minus_s, times_s, below_s, larger_s, lplus_s, lminus_s, lminus1_s, ltimes_s, lless_s, gap_s, weighed_s, most_s, lback_s, ltop_s, chkw_s, isnum_s, ispt_s, ispt_non_s, lp, rI, rC, rt, g1, g2]
  obtain ⟨env1, l1, la, lb, lf, rfl⟩ := loop
  have sH : Sz (1 / 2) 101 := ⟨by decide +kernel, by decide +kernel⟩
  have lpH := lossp_ok hch hsz sH (by omega) hlen (by decide +kernel) (by decide +kernel)
  have rIH := lruleI_ok sH (by omega) ⟨by decide +kernel, by decide +kernel⟩
  have rCH := lruleC_ok hch hsz sH (by omega) hlen (by decide +kernel) (by decide +kernel)
  have llH := lloss_ok hch hsz sH (by omega) hlen (by decide +kernel) (by decide +kernel)
  rw [frH] at lpH rIH rCH llH
  have loop2 := forL_all (f := fun d e => optF (bindT (.nm 8) d e) fun e' => exec (semN PP 46) e' f46b1) (enc := fr)
    (fun done env => ∃ a, env = [some (.scr ns), some (.lst (cs.map pt)), some (lot cs), some (.lst [fr w1, fr w2]), some (.int d), some (lastD ws cs), la, some (.obj (Str.ofString "LossRule") [Str.ofString "weight"] [.tup [.int 1, .int 2]]), a, lb, lf])
    [0, 1, -1 / 3, 4 / 3] [some (.scr ns), some (.lst (cs.map pt)), some (lot cs), some (.lst [fr w1, fr w2]), some (.int d), some (lastD ws cs), la, some (.obj (Str.ofString "LossRule") [Str.ofString "weight"] [.tup [.int 1, .int 2]]), none, lb, lf] ⟨none, rfl⟩ fun done x rest env e hI => by
      obtain ⟨a, rfl⟩ := hI
      have hx : x ∈ [0, 1, -1 / 3, (4 : Rat) / 3] := by rw [e]; simp
      have hx' : Sz x 5 ∧ ¬ (0 < x ∧ x < 1) := by
        simp only [List.mem_cons, List.not_mem_nil, or_false] at hx
        rcases hx with rfl | rfl | rfl | rfl
        · exact ⟨⟨by decide +kernel, by decide +kernel⟩, by decide +kernel⟩
        · exact ⟨⟨by decide +kernel, by decide +kernel⟩, by decide +kernel⟩
        · exact ⟨⟨by decide +kernel, by decide +kernel⟩, by decide +kernel⟩
        · exact ⟨⟨by decide +kernel, by decide +kernel⟩, by decide +kernel⟩
      have lp := lossp_bad (cs := cs) hx'.1 (by omega) hx'.2
      have rI := lruleI_bad hx'.1 (by omega) hx'.2
      have wd := word_weight
      have ew : eqD (.tup [.str (Str.ofString "weight"), .int 0]) (.tup [.str (Str.ofString "weight"), .int 0]) = .ok (.bl true) := by
        have : PyData.strOk (Str.ofString "weight") = true := by decide +kernel
        simp [eqD, D.cmpOk, D.cmpOkA, D.dp, D.dpA, D.eqv, D.eqvA, this]
      refine ⟨_, ?_, some (fr x), rfl⟩
      simp only [lot] at lp
      simp (disch := omega) [runF, FD.out, Fl.out, Fl.outL, lent, exec, ev, R.fl_ok, argF_ok, argF, argD_ok, argD, consD_ok, consD, preX, xopD, sopD, optJ, noX, mkO, lkp, optR, badd, bsub, bmul, bfdiv, bmod, bpow, baddl, baddt, cmpD, notR, negR, bltD, ixl, ixt, ixs, intR, eqD_ii, eqD_fr, eqD_ptt, mkT0, mkT1, mkT2, mkT3, mkT4, mkL0, mkL1, mkL2, mkL3, mkL4, atD0, atD1, atD2, atD3, ixfr0, ixfr1, cmpI, lot, pt, semN_lt, List.getElem?_cons_zero, List.getElem?_cons_succ, bindT, optF, f46b1, plus_s, minus_s, times_s, below_s, larger_s, lplus_s, lminus_s, lminus1_s, ltimes_s, lless_s, gap_s, weighed_s, most_s, lback_s, ltop_s, chkw_s, isnum_s, ispt_s, ispt_non_s, lp, rI, wd, refD, ew, D.noX, D.noXA]
  obtain ⟨env2, l2, lx, rfl⟩ := loop2
  simp only [List.map_cons, List.map_nil, fm13, f43', fr0, fr1] at l2
  have m11 : (11 : Int) ≠ 0 := by decide
  have eqH := eqD_fr (1 / 2) (1 / 2)
  rw [frH] at eqH
  simp only [decide_true] at eqH
  have hd1 : ¬ d - 1 = 0 := by omega
  simp only [lot, pt] at lpH rIH rCH llH l1 l2 hlot
  have eqP := fun a b : Rat => eqD_ptt a b a b
  simp (disch := omega) [runF, FD.out, Fl.out, Fl.outL, lent, exec, ev, R.fl_ok, argF_ok, argF, argD_ok, argD, consD_ok, consD, preX, xopD, sopD, optJ, noX, mkO, lkp, optR, badd, bsub, bmul, bfdiv, bmod, bpow, baddl, baddt, cmpD, notR, negR, bltD, ixl, ixt, ixs, intR, eqD_ii, eqD_fr, eqD_ptt, mkT0, mkT1, mkT2, mkT3, mkT4, mkL0, mkL1, mkL2, mkL3, mkL4, atD0, atD1, atD2, atD3, ixfr0, ixfr1, cmpI, lot, pt, semN_lt, List.getElem?_cons_zero, List.getElem?_cons_succ, f46, plus_s, minus_s, times_s, below_s, larger_s, lplus_s, lminus_s, lminus1_s, ltimes_s, lless_s, gap_s, weighed_s, most_s, lback_s, ltop_s, chkw_s, isnum_s, ispt_s, ispt_non_s, cl0, cl1, cl2, cl3, hw, hcor, hlot, p30, e30', k1, ← hd, hd1, k2, hasc, itD, seqD, lim, mkL5, l1, rIH, rCH, lpH, llH, eqH, l2]

end Pv.K59

/-! printed by gen2.py from the text of the law: its defs in the small language -/
namespace Pv.K59
open PySem PySem.Spec PyProof.Rows L2
def top (i : Nat) : Stmt := PySem.Challenge.pw_dealsformany_k59_equal_and_weighted_loss.main.body.getD i (.Pass ⟨0, 0, 0, 0⟩)
def d0 : DI := { name := "Lot.most", at_ := ("Lot", some "most"), nm := "most", qual := "Lot.most", st := L2.inClass (top 51) 4, ps := ["self"], N := ["self"], F := f0, dv := [], kd := [], pp := true, pl := true, hot := false, la := false }
def d1 : DI := { name := "below", at_ := ("below", none), nm := "below", qual := "below", st := top 32, ps := ["a", "b"], N := ["a", "b"], F := f1, dv := [], kd := [], pp := false, pl := true, hot := false, la := false }
def d2 : DI := { name := "check_weight", at_ := ("check_weight", none), nm := "check_weight", qual := "check_weight", st := top 38, ps := ["weight"], N := ["weight"], F := f2, dv := [], kd := [], pp := false, pl := true, hot := false, la := false }
def d3 : DI := { name := "frac", at_ := ("frac", none), nm := "frac", qual := "frac", st := top 27, ps := ["n", "d"], N := ["n", "d", "shared"], F := f3, dv := [(.int 1)], kd := [], pp := false, pl := true, hot := false, la := false }
def d4 : DI := { name := "minus", at_ := ("minus", none), nm := "minus", qual := "minus", st := top 29, ps := ["a", "b"], N := ["a", "b"], F := f4, dv := [], kd := [], pp := false, pl := true, hot := false, la := false }
def d5 : DI := { name := "gap", at_ := ("gap", none), nm := "gap", qual := "gap", st := top 36, ps := ["point", "base"], N := ["point", "base"], F := f5, dv := [], kd := [], pp := false, pl := true, hot := false, la := false }
def d6 : DI := { name := "larger", at_ := ("larger", none), nm := "larger", qual := "larger", st := top 34, ps := ["a", "b"], N := ["a", "b"], F := f6, dv := [], kd := [], pp := false, pl := true, hot := false, la := false }
def d7 : DI := { name := "lot_edges", at_ := ("lot_edges", none), nm := "lot_edges", qual := "lot_edges", st := top 41, ps := ["lot"], N := ["lot", "edges", "k", "left", "right"], F := f7, dv := [], kd := [], pp := false, pl := true, hot := false, la := false }
def d8 : DI := { name := "over", at_ := ("over", none), nm := "over", qual := "over", st := top 31, ps := ["a", "b"], N := ["a", "b"], F := f8, dv := [], kd := [], pp := false, pl := true, hot := false, la := false }
def d9 : DI := { name := "times", at_ := ("times", none), nm := "times", qual := "times", st := top 30, ps := ["a", "b"], N := ["a", "b"], F := f9, dv := [], kd := [], pp := false, pl := true, hot := false, la := false }
def d10 : DI := { name := "plus", at_ := ("plus", none), nm := "plus", qual := "plus", st := top 28, ps := ["a", "b"], N := ["a", "b"], F := f10, dv := [], kd := [], pp := false, pl := true, hot := false, la := false }
def d11 : DI := { name := "weighed", at_ := ("weighed", none), nm := "weighed", qual := "weighed", st := top 39, ps := ["factors", "point"], N := ["factors", "point"], F := f11, dv := [], kd := [], pp := false, pl := true, hot := false, la := false }
def d12 : DI := { name := "loss_point", at_ := ("loss_point", none), nm := "loss_point", qual := "loss_point", st := top 42, ps := ["lot", "weight"], N := ["lot", "weight", "way", "far", "left", "_", "normal", "beyond"], F := f12, dv := [], kd := [("weight", (.glo "HALF"))], pp := false, pl := false, hot := false, la := false }
def d13 : DI := { name := "LossRule.__call__", at_ := ("LossRule", some "__call__"), nm := "__call__", qual := "LossRule.__call__", st := L2.inClass (top 43) 1, ps := ["self", "lot"], N := ["self", "lot"], F := f13, dv := [], kd := [], pp := false, pl := true, hot := false, la := false }
def d14 : DI := { name := "LossRule.__init__", at_ := ("LossRule", some "__init__"), nm := "__init__", qual := "LossRule.__init__", st := L2.inClass (top 43) 0, ps := ["self", "weight"], N := ["self", "weight"], F := f14, dv := [], kd := [("weight", (.glo "HALF"))], pp := false, pl := false, hot := false, la := false }
def d15 : DI := { name := "turn", at_ := ("turn", none), nm := "turn", qual := "turn", st := top 45, ps := ["a", "b", "c"], N := ["a", "b", "c"], F := f15, dv := [], kd := [], pp := false, pl := true, hot := false, la := false }
def d16 : DI := { name := "whole_spots", at_ := ("whole_spots", none), nm := "whole_spots", qual := "whole_spots", st := top 46, ps := ["points"], N := ["points", "wide", "high", "x", "y", "spots", "k"], F := f16, dv := [], kd := [], pp := false, pl := true, hot := false, la := false }
def d17 : DI := { name := "upper_chain", at_ := ("upper_chain", none), nm := "upper_chain", qual := "upper_chain", st := top 47, ps := ["points"], N := ["points", "chain", "spot"], F := f17, dv := [], kd := [], pp := false, pl := true, hot := false, la := false }
def d18 : DI := { name := "Lot.__init__", at_ := ("Lot", some "__init__"), nm := "__init__", qual := "Lot.__init__", st := L2.inClass (top 51) 0, ps := ["self", "corners"], N := ["self", "corners"], F := f18, dv := [], kd := [], pp := false, pl := true, hot := false, la := false }
def d19 : DI := { name := "_law_less", at_ := ("_law_less", none), nm := "_law_less", qual := "_law_less", st := top 60, ps := ["a", "b"], N := ["a", "b"], F := f19, dv := [], kd := [], pp := false, pl := true, hot := false, la := false }
def d20 : DI := { name := "_law_ascending", at_ := ("_law_ascending", none), nm := "_law_ascending", qual := "_law_ascending", st := top 63, ps := ["numbers"], N := ["numbers", "told", "number", "at"], F := f20, dv := [], kd := [], pp := false, pl := true, hot := false, la := false }
def d21 : DI := { name := "_law_cell", at_ := ("_law_cell", none), nm := "_law_cell", qual := "_law_cell", st := top 53, ps := ["script", "k"], N := ["script", "k"], F := f21, dv := [], kd := [], pp := false, pl := true, hot := false, la := false }
def d22 : DI := { name := "_law_lowest", at_ := ("_law_lowest", none), nm := "_law_lowest", qual := "_law_lowest", st := top 55, ps := ["n", "d"], N := ["n", "d", "a", "b", "c"], F := f22, dv := [], kd := [], pp := false, pl := true, hot := false, la := false }
def d23 : DI := { name := "_law_at", at_ := ("_law_at", none), nm := "_law_at", qual := "_law_at", st := top 70, ps := ["world", "x", "y"], N := ["world", "x", "y", "units", "left", "low", "first", "second"], F := f23, dv := [], kd := [], pp := false, pl := true, hot := false, la := false }
def d24 : DI := { name := "_law_corners", at_ := ("_law_corners", none), nm := "_law_corners", qual := "_law_corners", st := top 71, ps := ["world"], N := ["world", "corner"], F := f24, dv := [], kd := [], pp := false, pl := true, hot := false, la := false }
def d25 : DI := { name := "_law_minus", at_ := ("_law_minus", none), nm := "_law_minus", qual := "_law_minus", st := top 57, ps := ["a", "b"], N := ["a", "b"], F := f25, dv := [], kd := [], pp := false, pl := true, hot := false, la := false }
def d26 : DI := { name := "_law_back", at_ := ("_law_back", none), nm := "_law_back", qual := "_law_back", st := top 76, ps := ["point", "by"], N := ["point", "by"], F := f26, dv := [], kd := [], pp := false, pl := true, hot := false, la := false }
def d27 : DI := { name := "_law_over", at_ := ("_law_over", none), nm := "_law_over", qual := "_law_over", st := top 59, ps := ["a", "b"], N := ["a", "b"], F := f27, dv := [], kd := [], pp := false, pl := true, hot := false, la := false }
def d28 : DI := { name := "_law_plus", at_ := ("_law_plus", none), nm := "_law_plus", qual := "_law_plus", st := top 56, ps := ["a", "b"], N := ["a", "b"], F := f28, dv := [], kd := [], pp := false, pl := true, hot := false, la := false }
def d29 : DI := { name := "_law_times", at_ := ("_law_times", none), nm := "_law_times", qual := "_law_times", st := top 58, ps := ["a", "b"], N := ["a", "b"], F := f29, dv := [], kd := [], pp := false, pl := true, hot := false, la := false }
def d30 : DI := { name := "_law_top_point", at_ := ("_law_top_point", none), nm := "_law_top_point", qual := "_law_top_point", st := top 75, ps := ["chain"], N := ["chain"], F := f30, dv := [], kd := [], pp := false, pl := true, hot := false, la := false }
def d31 : DI := { name := "_law_loss", at_ := ("_law_loss", none), nm := "_law_loss", qual := "_law_loss", st := top 77, ps := ["chain", "weight"], N := ["chain", "weight", "top", "way", "far", "k", "a", "b", "gap_here", "beyond", "one"], F := f31, dv := [], kd := [], pp := false, pl := true, hot := false, la := false }
def d32 : DI := { name := "_law_whole", at_ := ("_law_whole", none), nm := "_law_whole", qual := "_law_whole", st := top 64, ps := ["value"], N := ["value"], F := f32, dv := [], kd := [], pp := false, pl := false, hot := true, la := false }
def d33 : DI := { name := "_law_word", at_ := ("_law_word", none), nm := "_law_word", qual := "_law_word", st := top 65, ps := ["e"], N := ["e", "kinds", "words"], F := f33, dv := [], kd := [], pp := false, pl := true, hot := true, la := false }
def d34 : DI := { name := "_law_refused", at_ := ("_law_refused", none), nm := "_law_refused", qual := "_law_refused", st := top 66, ps := ["call"], N := ["call", "e"], F := f34, dv := [], kd := [], pp := false, pl := true, hot := false, la := false }
def d35 : DI := { name := "Lot.losses", at_ := ("Lot", some "losses"), nm := "losses", qual := "Lot.losses", st := L2.inClass (top 51) 6, ps := ["self", "point"], N := ["self", "point"], F := f35, dv := [], kd := [], pp := false, pl := true, hot := false, la := false }
def d36 : DI := { name := "_law_is_number", at_ := ("_law_is_number", none), nm := "_law_is_number", qual := "_law_is_number", st := top 61, ps := ["value"], N := ["value", "part"], F := f36, dv := [], kd := [], pp := false, pl := true, hot := false, la := false }
def d37 : DI := { name := "_law_is_point", at_ := ("_law_is_point", none), nm := "_law_is_point", qual := "_law_is_point", st := top 62, ps := ["value"], N := ["value"], F := f37, dv := [], kd := [], pp := false, pl := true, hot := false, la := false }
def d38 : DI := { name := "_law_high", at_ := ("_law_high", none), nm := "_law_high", qual := "_law_high", st := top 72, ps := ["chain", "x"], N := ["chain", "x", "k", "share", "drop"], F := f38, dv := [], kd := [], pp := false, pl := true, hot := false, la := false }
def d39 : DI := { name := "_law_in_chain", at_ := ("_law_in_chain", none), nm := "_law_in_chain", qual := "_law_in_chain", st := top 73, ps := ["chain", "point"], N := ["chain", "point"], F := f39, dv := [], kd := [], pp := false, pl := true, hot := false, la := false }
def d40 : DI := { name := "_law_on_rim", at_ := ("_law_on_rim", none), nm := "_law_on_rim", qual := "_law_on_rim", st := top 74, ps := ["chain", "point"], N := ["chain", "point"], F := f40, dv := [], kd := [], pp := false, pl := true, hot := false, la := false }
def d41 : DI := { name := "_law_right", at_ := ("_law_right", none), nm := "_law_right", qual := "_law_right", st := top 78, ps := ["lot", "chain", "weight", "point"], N := ["lot", "chain", "weight", "point", "loss"], F := f41, dv := [], kd := [], pp := false, pl := true, hot := false, la := false }
def d42 : DI := { name := "_law_bounds", at_ := ("_law_bounds", none), nm := "_law_bounds", qual := "_law_bounds", st := top 68, ps := ["chain"], N := ["chain", "bounds", "k", "a", "b"], F := f42, dv := [], kd := [], pp := false, pl := true, hot := false, la := false }
def d43 : DI := { name := "_law_digits", at_ := ("_law_digits", none), nm := "_law_digits", qual := "_law_digits", st := top 54, ps := ["cell", "base", "count"], N := ["cell", "base", "count", "rest", "digits", "k"], F := f43, dv := [], kd := [], pp := false, pl := true, hot := false, la := false }
def d44 : DI := { name := "_law_steps", at_ := ("_law_steps", none), nm := "_law_steps", qual := "_law_steps", st := top 67, ps := ["row", "many"], N := ["row", "many", "steps", "k", "step", "at"], F := f44, dv := [], kd := [], pp := false, pl := true, hot := false, la := false }
def d45 : DI := { name := "_law_world", at_ := ("_law_world", none), nm := "_law_world", qual := "_law_world", st := top 69, ps := ["cell"], N := ["cell", "row", "many", "steps", "x", "y", "step", "chain", "units", "left", "low", "one"], F := f45, dv := [], kd := [], pp := false, pl := true, hot := false, la := false }
def d46 : DI := { name := "law", at_ := ("law", none), nm := "law", qual := "law", st := top 79, ps := ["script"], N := ["script", "chain", "lot", "weights", "d", "last", "weight", "plain", "bad", "point", "rule"], F := f46, dv := [], kd := [], pp := false, pl := false, hot := false, la := true }
def ds : List DI := [d0, d1, d2, d3, d4, d5, d6, d7, d8, d9, d10, d11, d12, d13, d14, d15, d16, d17, d18, d19, d20, d21, d22, d23, d24, d25, d26, d27, d28, d29, d30, d31, d32, d33, d34, d35, d36, d37, d38, d39, d40, d41, d42, d43, d44, d45, d46]
def shs : List Sh := ([⟨12, 1, ["weight"], [], []⟩, ⟨12, 1, [], [(.glo "HALF")], [(.tup [(.int 1), (.int 2)])]⟩])
def shms : List Sh := ([⟨14, 0, ["weight"], [], []⟩, ⟨14, 0, [], [(.glo "HALF")], [(.tup [(.int 1), (.int 2)])]⟩])
def t_xc0 : List Str := ["BadWeight"]
abbrev t_xc : List Str := t_xc0
def t_xs0 : List (Str × Str × Bool) := [("BadWeight", "BadPairing", false), ("BadWeight", "BadRows", false), ("BadWeight", "TooMany", false), ("BadWeight", "BadTie", false), ("BadWeight", "NoCorner", false), ("BadWeight", "BadTable", false), ("BadWeight", "BadTypes", false), ("BadWeight", "NoSuchName", false), ("BadWeight", "UnknownName", false), ("BadWeight", "BadWeight", true), ("BadWeight", "NothingToUndo", false), ("BadWeight", "BadDeed", false), ("BadWeight", "NameTaken", false), ("BadWeight", "NothingSeen", false), ("BadWeight", "BadText", false), ("BadWeight", "Outside", false), ("BadWeight", "BadEstate", false), ("BadWeight", "NoGain", false), ("BadWeight", "ValueError", true)]
abbrev t_xs : List (Str × Str × Bool) := t_xs0
def t_bl0 : List Str := ["ValueError", "abs", "bool", "enumerate", "int", "isinstance", "len", "list", "max", "range", "sorted", "tuple"]
abbrev t_bl : List Str := t_bl0
def t_gl0 : List (Str × D) := [("HALF", (.tup [(.int 1), (.int 2)])), ("ONE", (.tup [(.int 1), (.int 1)])), ("ZERO", (.tup [(.int 0), (.int 1)]))]
abbrev t_gl : List (Str × D) := t_gl0
def t_gs0 : List Str := ["below", "frac", "minus", "plus", "times", "check_weight", "weighed", "gap", "larger", "over", "lot_edges", "loss_point", "turn", "whole_spots", "upper_chain", "_law_less", "_law_lowest", "_law_at", "_law_minus", "_law_top_point"]
def t_gs1 : List Str := ["_law_back", "_law_plus", "_law_times", "_law_over", "_law_is_number", "_law_high", "_law_in_chain", "_law_is_point", "_law_on_rim", "_law_loss", "_law_digits", "_law_steps", "_law_bounds", "_law_corners", "_law_world", "_law_cell", "_law_right", "_law_ascending"]
abbrev t_gs : List Str := t_gs0 ++ t_gs1
def t_pl0 : List Nat := [1, 3, 4, 10, 9, 2, 11, 5, 0, 6, 8, 7, 15, 16, 17, 19, 22, 23, 25, 30]
def t_pl1 : List Nat := [26, 28, 29, 27, 33, 34, 36, 38, 39, 37, 40, 31, 35, 43, 44, 42, 24, 45, 21, 18]
def t_pl2 : List Nat := [41, 13, 20]
abbrev t_pl : List Nat := t_pl0 ++ t_pl1 ++ t_pl2
def t_mkc0 : List (Str × Nat) := [("Lot", 18), ("LossRule", 14)]
abbrev t_mkc : List (Str × Nat) := t_mkc0
def t_me0 : List (Str × Str × Nat) := [("Lot", "losses", 35), ("LossRule", "__call__", 13)]
abbrev t_me : List (Str × Str × Nat) := t_me0
def t_pr0 : List (Str × Str × Nat) := [("Lot", "most", 0)]
abbrev t_pr : List (Str × Str × Nat) := t_pr0
def t_na0 : List (Str × Str) := [("Lot", "frontier"), ("LossRule", "weight")]
abbrev t_na : List (Str × Str) := t_na0
def t_xo0 : List Str := ["BadWeight", "BadNumber", "NoCorner"]
abbrev t_xo : List Str := t_xo0
def G : Gt := { fn := ds.map (·.name), ps := ds.map (·.ps), rt := ds.map (·.F.ty), bl := t_bl, gl := t_gl, gc := true, lv := 0, lc := true, gs := t_gs, pl := t_pl, lt := ds.map (·.F.lt), mkc := t_mkc, me := t_me, pr := t_pr, na := t_na, sh := shs.map Sh.q, shm := shms.map Sh.q, xo := t_xo, xc := t_xc, xs := t_xs, rf := "_law_refused", hw := 33 }
def jr : Option Nat := some 34
theorem chk : chkL G 0 ds = true := by decide +kernel
theorem bd0 : d0.pl = true → BindOk d0 := fun _ K f fd F => F.bindsN fun _ _ _ _ _ _ us hl => match us, hl with | [_], _ => rfl
theorem bd1 : d1.pl = true → BindOk d1 := fun _ K f fd F => F.bindsN fun _ _ _ _ _ _ us hl => match us, hl with | [_, _], _ => rfl
theorem bd2 : d2.pl = true → BindOk d2 := fun _ K f fd F => F.bindsN fun _ _ _ _ _ _ us hl => match us, hl with | [_], _ => rfl
theorem bd3 : d3.pl = true → BindOk d3 := fun _ K f fd F => (F.binds1 (ps := d3.ps) 2 1 (fun h => by simp [He.DefD.dvs, DI.dd, d3] at h) rfl fun _ _ _ _ _ _ _ us its h1 h2 => match us, its, h1, h2 with | [_, _], [_], _, _ => ⟨_, rfl, rfl⟩).elim fun e h => (by cases h.1; exact h.2)
theorem bd4 : d4.pl = true → BindOk d4 := fun _ K f fd F => F.bindsN fun _ _ _ _ _ _ us hl => match us, hl with | [_, _], _ => rfl
theorem bd5 : d5.pl = true → BindOk d5 := fun _ K f fd F => F.bindsN fun _ _ _ _ _ _ us hl => match us, hl with | [_, _], _ => rfl
theorem bd6 : d6.pl = true → BindOk d6 := fun _ K f fd F => F.bindsN fun _ _ _ _ _ _ us hl => match us, hl with | [_, _], _ => rfl
theorem bd7 : d7.pl = true → BindOk d7 := fun _ K f fd F => F.bindsN fun _ _ _ _ _ _ us hl => match us, hl with | [_], _ => rfl
theorem bd8 : d8.pl = true → BindOk d8 := fun _ K f fd F => F.bindsN fun _ _ _ _ _ _ us hl => match us, hl with | [_, _], _ => rfl
theorem bd9 : d9.pl = true → BindOk d9 := fun _ K f fd F => F.bindsN fun _ _ _ _ _ _ us hl => match us, hl with | [_, _], _ => rfl
theorem bd10 : d10.pl = true → BindOk d10 := fun _ K f fd F => F.bindsN fun _ _ _ _ _ _ us hl => match us, hl with | [_, _], _ => rfl
theorem bd11 : d11.pl = true → BindOk d11 := fun _ K f fd F => F.bindsN fun _ _ _ _ _ _ us hl => match us, hl with | [_, _], _ => rfl
theorem bd12 : d12.pl = true → BindOk d12 := fun h => by cases h
theorem bd13 : d13.pl = true → BindOk d13 := fun _ K f fd F => F.bindsN fun _ _ _ _ _ _ us hl => match us, hl with | [_, _], _ => rfl
theorem bd14 : d14.pl = true → BindOk d14 := fun h => by cases h
theorem bd15 : d15.pl = true → BindOk d15 := fun _ K f fd F => F.bindsN fun _ _ _ _ _ _ us hl => match us, hl with | [_, _, _], _ => rfl
theorem bd16 : d16.pl = true → BindOk d16 := fun _ K f fd F => F.bindsN fun _ _ _ _ _ _ us hl => match us, hl with | [_], _ => rfl
theorem bd17 : d17.pl = true → BindOk d17 := fun _ K f fd F => F.bindsN fun _ _ _ _ _ _ us hl => match us, hl with | [_], _ => rfl
theorem bd18 : d18.pl = true → BindOk d18 := fun _ K f fd F => F.bindsN fun _ _ _ _ _ _ us hl => match us, hl with | [_, _], _ => rfl
theorem bd19 : d19.pl = true → BindOk d19 := fun _ K f fd F => F.bindsN fun _ _ _ _ _ _ us hl => match us, hl with | [_, _], _ => rfl
theorem bd20 : d20.pl = true → BindOk d20 := fun _ K f fd F => F.bindsN fun _ _ _ _ _ _ us hl => match us, hl with | [_], _ => rfl
theorem bd21 : d21.pl = true → BindOk d21 := fun _ K f fd F => F.bindsN fun _ _ _ _ _ _ us hl => match us, hl with | [_, _], _ => rfl
theorem bd22 : d22.pl = true → BindOk d22 := fun _ K f fd F => F.bindsN fun _ _ _ _ _ _ us hl => match us, hl with | [_, _], _ => rfl
theorem bd23 : d23.pl = true → BindOk d23 := fun _ K f fd F => F.bindsN fun _ _ _ _ _ _ us hl => match us, hl with | [_, _, _], _ => rfl
theorem bd24 : d24.pl = true → BindOk d24 := fun _ K f fd F => F.bindsN fun _ _ _ _ _ _ us hl => match us, hl with | [_], _ => rfl
theorem bd25 : d25.pl = true → BindOk d25 := fun _ K f fd F => F.bindsN fun _ _ _ _ _ _ us hl => match us, hl with | [_, _], _ => rfl
theorem bd26 : d26.pl = true → BindOk d26 := fun _ K f fd F => F.bindsN fun _ _ _ _ _ _ us hl => match us, hl with | [_, _], _ => rfl
theorem bd27 : d27.pl = true → BindOk d27 := fun _ K f fd F => F.bindsN fun _ _ _ _ _ _ us hl => match us, hl with | [_, _], _ => rfl
theorem bd28 : d28.pl = true → BindOk d28 := fun _ K f fd F => F.bindsN fun _ _ _ _ _ _ us hl => match us, hl with | [_, _], _ => rfl
theorem bd29 : d29.pl = true → BindOk d29 := fun _ K f fd F => F.bindsN fun _ _ _ _ _ _ us hl => match us, hl with | [_, _], _ => rfl
theorem bd30 : d30.pl = true → BindOk d30 := fun _ K f fd F => F.bindsN fun _ _ _ _ _ _ us hl => match us, hl with | [_], _ => rfl
theorem bd31 : d31.pl = true → BindOk d31 := fun _ K f fd F => F.bindsN fun _ _ _ _ _ _ us hl => match us, hl with | [_, _], _ => rfl
theorem bd32 : d32.pl = true → BindOk d32 := fun h => by cases h
theorem bd33 : d33.pl = true → BindOk d33 := fun _ K f fd F => F.bindsN fun _ _ _ _ _ _ us hl => match us, hl with | [_], _ => rfl
theorem bd34 : d34.pl = true → BindOk d34 := fun _ K f fd F => F.bindsN fun _ _ _ _ _ _ us hl => match us, hl with | [_], _ => rfl
theorem bd35 : d35.pl = true → BindOk d35 := fun _ K f fd F => F.bindsN fun _ _ _ _ _ _ us hl => match us, hl with | [_, _], _ => rfl
theorem bd36 : d36.pl = true → BindOk d36 := fun _ K f fd F => F.bindsN fun _ _ _ _ _ _ us hl => match us, hl with | [_], _ => rfl
theorem bd37 : d37.pl = true → BindOk d37 := fun _ K f fd F => F.bindsN fun _ _ _ _ _ _ us hl => match us, hl with | [_], _ => rfl
theorem bd38 : d38.pl = true → BindOk d38 := fun _ K f fd F => F.bindsN fun _ _ _ _ _ _ us hl => match us, hl with | [_, _], _ => rfl
theorem bd39 : d39.pl = true → BindOk d39 := fun _ K f fd F => F.bindsN fun _ _ _ _ _ _ us hl => match us, hl with | [_, _], _ => rfl
theorem bd40 : d40.pl = true → BindOk d40 := fun _ K f fd F => F.bindsN fun _ _ _ _ _ _ us hl => match us, hl with | [_, _], _ => rfl
theorem bd41 : d41.pl = true → BindOk d41 := fun _ K f fd F => F.bindsN fun _ _ _ _ _ _ us hl => match us, hl with | [_, _, _, _], _ => rfl
theorem bd42 : d42.pl = true → BindOk d42 := fun _ K f fd F => F.bindsN fun _ _ _ _ _ _ us hl => match us, hl with | [_], _ => rfl
theorem bd43 : d43.pl = true → BindOk d43 := fun _ K f fd F => F.bindsN fun _ _ _ _ _ _ us hl => match us, hl with | [_, _, _], _ => rfl
theorem bd44 : d44.pl = true → BindOk d44 := fun _ K f fd F => F.bindsN fun _ _ _ _ _ _ us hl => match us, hl with | [_, _], _ => rfl
theorem bd45 : d45.pl = true → BindOk d45 := fun _ K f fd F => F.bindsN fun _ _ _ _ _ _ us hl => match us, hl with | [_], _ => rfl
theorem bd46 : d46.pl = true → BindOk d46 := fun h => by cases h
theorem bds : AllB ds := .cons bd0 (.cons bd1 (.cons bd2 (.cons bd3 (.cons bd4 (.cons bd5 (.cons bd6 (.cons bd7 (.cons bd8 (.cons bd9 (.cons bd10 (.cons bd11 (.cons bd12 (.cons bd13 (.cons bd14 (.cons bd15 (.cons bd16 (.cons bd17 (.cons bd18 (.cons bd19 (.cons bd20 (.cons bd21 (.cons bd22 (.cons bd23 (.cons bd24 (.cons bd25 (.cons bd26 (.cons bd27 (.cons bd28 (.cons bd29 (.cons bd30 (.cons bd31 (.cons bd32 (.cons bd33 (.cons bd34 (.cons bd35 (.cons bd36 (.cons bd37 (.cons bd38 (.cons bd39 (.cons bd40 (.cons bd41 (.cons bd42 (.cons bd43 (.cons bd44 (.cons bd45 (.cons bd46 (.nil)))))))))))))))))))))))))))))))))))))))))))))))
theorem sh0 : ShOk d12 1 ["weight"] [] := by
  intro K f fd F
  obtain ⟨dV, h⟩ := F.kbinds0 (ps := d12.ps) 1 ["weight"] [] (fun {α} us mv ws => us ++ ws) (fun h => by cases h) (fun q hq => by simp [He.DefD.kws, DI.dd, d12] at hq ⊢; try exact hq) (fun r1 r2 r3 => r1.append r3) fun _ _ _ _ _ _ us mv ws h1 h2 h3 => match us, mv, ws, h1, h2, h3 with | [_], [], [_], _, _, _ => rfl
  exact ⟨[], .nil, fun h => absurd h (by simp), fun _ => by simpa using h⟩
theorem sh1 : ShOk d12 1 [] [(.glo "HALF")] := fun K f fd F => (F.binds0 (ps := d12.ps) 1 (fun h => by cases h) rfl fun _ _ _ _ _ _ us ks h1 h2 => match us, ks, h1, h2 with | [_], [_], _, _ => ⟨_, _, _, _, _, _, rfl, rfl, rfl⟩).elim fun dV h => ⟨dV, h.1, fun _ => h.2, fun h => absurd rfl h⟩
theorem shm0 : ShOk d14 1 ["weight"] [] := by
  intro K f fd F
  obtain ⟨dV, h⟩ := F.kbinds0 (ps := d14.ps) 1 ["weight"] [] (fun {α} us mv ws => us ++ ws) (fun h => by cases h) (fun q hq => by simp [He.DefD.kws, DI.dd, d14] at hq ⊢; try exact hq) (fun r1 r2 r3 => r1.append r3) fun _ _ _ _ _ _ us mv ws h1 h2 h3 => match us, mv, ws, h1, h2, h3 with | [_], [], [_], _, _, _ => rfl
  exact ⟨[], .nil, fun h => absurd h (by simp), fun _ => by simpa using h⟩
theorem shm1 : ShOk d14 1 [] [(.glo "HALF")] := fun K f fd F => (F.binds0 (ps := d14.ps) 1 (fun h => by cases h) rfl fun _ _ _ _ _ _ us ks h1 h2 => match us, ks, h1, h2 with | [_], [_], _, _ => ⟨_, _, _, _, _, _, rfl, rfl, rfl⟩).elim fun dV h => ⟨dV, h.1, fun _ => h.2, fun h => absurd rfl h⟩
theorem shA : AllS ds 0 shs := .cons (fun d e => by cases (Option.some.inj e); exact sh0) (.cons (fun d e => by cases (Option.some.inj e); exact sh1) (.nil))
theorem shmA : AllS ds 1 shms := .cons (fun d e => by cases (Option.some.inj e); exact shm0) (.cons (fun d e => by cases (Option.some.inj e); exact shm1) (.nil))
theorem look : Look G ds shs shms jr := ⟨chk, rfl, by decide +kernel, by decide +kernel, by decide +kernel, bds, rfl, rfl, by decide +kernel, by decide +kernel, shA, shmA, by decide +kernel, by decide +kernel⟩
def loose0 : List Str := ["gcd", "lcm", "_wall", "SettleError", "BadNumber", "NoGain", "Outside", "BadWeight", "BadTable", "BadRows", "BadEstate", "NothingSeen", "UnknownName", "TooMany", "BadText", "NoSuchName", "NameTaken", "BadDeed", "NothingToUndo", "BadTie"]
def loose1 : List Str := ["BadPairing", "BadTypes", "NoCorner", "ZERO", "ONE", "HALF", "frac", "plus", "minus", "times", "over", "below", "at_most", "larger", "gap", "check_weight", "weighed", "lot_edges", "loss_point", "LossRule"]
def loose2 : List Str := ["turn", "whole_spots", "upper_chain", "y_at", "height_on", "Lot", "_law_cell", "_law_digits", "_law_lowest", "_law_plus", "_law_minus", "_law_times", "_law_over", "_law_less", "_law_is_number", "_law_is_point", "_law_ascending", "_law_whole", "_law_word", "_law_refused"]
def loose3 : List Str := ["_law_steps", "_law_bounds", "_law_world", "_law_at", "_law_corners", "_law_high", "_law_in_chain", "_law_on_rim", "_law_top_point", "_law_back", "_law_loss", "_law_right"]
abbrev loose : List Str := loose0 ++ loose1 ++ loose2 ++ loose3
abbrev R : PySem.W.OpenRow := PySem.W.OpenLaw.row PySem.Challenge.rw_dealsformany_k59_equal_and_weighted_loss
def nd0 : List Str := ["BadDeed", "BadEstate", "BadNumber", "BadPairing", "BadRows", "BadTable", "BadText", "BadTie", "BadTypes", "BadWeight", "HALF", "LossRule", "Lot", "NameTaken", "NoCorner", "NoGain", "NoSuchName", "NothingSeen", "NothingToUndo", "ONE"]
def nd1 : List Str := ["Outside", "SettleError", "TooMany", "UnknownName", "ValueError", "ZERO", "_law_ascending", "_law_at", "_law_back", "_law_bounds", "_law_cell", "_law_corners", "_law_digits", "_law_high", "_law_in_chain", "_law_is_number", "_law_is_point", "_law_less", "_law_loss", "_law_lowest"]
def nd2 : List Str := ["_law_minus", "_law_on_rim", "_law_over", "_law_plus", "_law_refused", "_law_right", "_law_steps", "_law_times", "_law_top_point", "_law_whole", "_law_word", "_law_world", "below", "check_weight", "frac", "gap", "gcd", "larger", "law", "lcm"]
def nd3 : List Str := ["loss_point", "lot_edges", "minus", "over", "plus", "times", "turn", "upper_chain", "weighed", "whole_spots"]
abbrev nd : List Str := nd0 ++ nd1 ++ nd2 ++ nd3
abbrev fa : List He.Fa := faL G ds
abbrev fn : List He.DefD := fnL ds
abbrev pg : List Pg := pgL ds
abbrev tf : List He.Defn := tfL ds
abbrev ex (K : PySem.W.Frag) : Bool := exB G ds jr K
abbrev hk : PySem.W.Hook := hookP 6 nd fa fn pg tf ex
def ob (s : PySem.W.SharedT) : AlP := obsP 6 nd fa fn pg tf ex (HandSHeadRun.getT s)
theorem ob_eq (s : PySem.W.SharedT) : ob s = hk.obs s.abs := obsP_eq (HandSHeadRun.getT_eq s)
set_option maxHeartbeats 0 in
theorem runL (w : World) : (HandSHeadRun.wholeF (fun p => HandSHeadRun.stepQ (HandSHeadRun.denQ HandSHeadRun.tabQ) p w) HandSHeadRun.fenceQ 20000 R.prog).map (fun x => HandSHeadRun.looksF R.prog x.1.heap x.2.abs) = some true := by kernel_rfl
abbrev qv : PySem.Program := PySem.W.view R.prog [0, 79]
set_option maxHeartbeats 0 in
theorem runS (w : World) : (HandSHeadRun.wholeF (fun p => HandSHeadRun.stepQ (HandSHeadRun.denQ HandSHeadRun.tabQ) p w) HandSHeadRun.fenceQ 20000 R.prog).map (fun x => HandSHeadRun.seenQ qv loose (importedModules R.prog.main.body) (fun s => PySem.W.xlAt qv [] s && PySem.W.recOk R.toRowW.records s) x.2.abs) = some (PySem.W.openGood qv loose) := by kernel_rfl
set_option maxHeartbeats 0 in
theorem runO (w : World) : (HandSHeadRun.wholeF (fun p => HandSHeadRun.stepQ (HandSHeadRun.denQ HandSHeadRun.tabQ) p w) HandSHeadRun.fenceQ 20000 R.prog).map (fun x => ob x.2) = some (hk.val w) := by kernel_rfl
theorem run (w : World) : HandSHeadRun.RunEqI R qv hk ob 20000 loose w := map3 (runL w) (runS w) (runO w)
theorem mathL (n : List Int) (h : n.length ≤ 63) (hb : ∀ z ∈ n, Builtin.Int.intBits z ≤ 1048576) : sem (ds.map (·.F)) 46 [.scr n] = .ok (.bl true) := math n h hb
end Pv.K59
open PySem PySem.W PySem.Calls PyProof.Rows
set_option maxHeartbeats 0 in
theorem PySem.Challenge.cw_dealsformany_k59_equal_and_weighted_loss_holds : PySem.Challenge.rw_dealsformany_k59_equal_and_weighted_loss.Holds := by
  w_on; o_law
  refine HandSHeadRun.head_imp (r := OpenLaw.row PySem.Challenge.rw_dealsformany_k59_equal_and_weighted_loss) (q := view (OpenLaw.row PySem.Challenge.rw_dealsformany_k59_equal_and_weighted_loss).prog [0, 79]) (H := Pv.K59.hk) (ob := Pv.K59.ob) (M := 20000) (loose := Pv.K59.loose) (d := HandSHeadRun.topDef (OpenLaw.row PySem.Challenge.rw_dealsformany_k59_equal_and_weighted_loss).prog 79) (kwd := []) Pv.K59.ob_eq
    Pv.K59.run (by kernel_rfl) (by kernel_rfl) (by kernel_rfl) (by rfl) (by first | assumption | decide +kernel) (by decide +kernel) ⟨rfl, rfl, rfl, rfl, rfl, by decide +kernel⟩ ?hw ?hc
  case hw => w_witness2
  case hc =>
    refine LamX.walk_ofTsE (l := PySem.Challenge.rw_dealsformany_k59_equal_and_weighted_loss) (n := 63) (k := 47) (x := "script") (CX := fun w => L2.CX (PySem.Challenge.rw_dealsformany_k59_equal_and_weighted_loss).prog w) rfl (by decide) (by kernel_rfl) ⟨rfl, by decide, by decide⟩ ?F (fun _ _ _ _ _ z => Pv.cx_none z)
    intro w mg fa h Y G hmg0
    obtain ⟨K, KX, c⟩ := Y
    have hmg : mg ("law" : PySem.Str) = some (.ref fa) := by
      have e : (HandSHeadRun.topDef (OpenLaw.row PySem.Challenge.rw_dealsformany_k59_equal_and_weighted_loss).prog 79).name = ("law" : PySem.Str) := by kernel_rfl
      rw [← e]
      exact hmg0
    exact ⟨K, KX, Pv.law_at (jl := 46) (d := Pv.K59.d46) KX G Pv.K59.look c rfl hmg rfl rfl rfl rfl rfl rfl rfl rfl (fun _ _ _ _ _ _ us hl => match us, hl with | [_], _ => rfl) Pv.K59.mathL⟩

