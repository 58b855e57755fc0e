import PyProof.Rows.All
import Wide.All
import OpenK.AllK
import Wide.FinOn
import HandS.ForMost
import HandS.Exc
import HandS.WordsExc
import HandS.Walk
import HandS.Wide
import HandS.Gcd
import HandS.Zip
import HandS.IsInst
import HandS.TupAny
import HandS.Defaults
import HandS.HeadHook4
import HandS.HeadWalk
import HandS.Head3
import PyProof.EqLayable
import KE.GoesEnum
import HandS.Rev
import PySem.Challenge.RW_dealsformany_k01_line_papers_are_judged
set_option Elab.async false
set_option linter.all false
set_option maxRecDepth 100000
/-! Pv, part A: plain data, what stands for it on the abstract heap, what a frame owns. -/
namespace Pv
open PySem PySem.Spec PyProof.Rows L2

/-- plain data: what a value of the program stands for -/
inductive D where
  | non | bl (b : Bool) | int (i : Int) | str (s : Str)
  | tup (ds : List D) | lst (ds : List D)
  | scr (ns : List Int)
  | obj (c : Str) (ns : List Str) (ds : List D)

/-- the classes of the text, by name -/
structure Tb where
  K : PySem.W.Frag
  cls : Str → Option Addr

mutual
inductive Rep (T : Tb) (H : Hp) : V → D → Prop
  | non : Rep T H .non .non
  | bl (b : Bool) : Rep T H (.bl b) (.bl b)
  | int (i : Int) : Rep T H (.int i) (.int i)
  | str (s : Str) : Rep T H (.str s) (.str s)
  | tup {a vs ds} : SqT T.K H a vs → RepA T H vs ds → Rep T H (.ref a) (.tup ds)
  | lst {a vs ds} : H a = some (.lst vs) → RepA T H vs ds → Rep T H (.ref a) (.lst ds)
  | scr {a ns} : SqL T.K H a (ns.map V.int) → Rep T H (.ref a) (.scr ns)
  | obj {a C dx fs c ds} : H a = some (.ins C dx fs) → T.cls c = some C → RepA T H (fs.map (·.2)) ds → Rep T H (.ref a) (.obj c (fs.map (·.1)) ds)
inductive RepA (T : Tb) (H : Hp) : List V → List D → Prop
  | nil : RepA T H [] []
  | cons {v d vs ds} : Rep T H v d → RepA T H vs ds → RepA T H (v :: vs) (d :: ds)
end

theorem seqT {K : PySem.W.Frag} {H H' : Hp} {a : Addr} {xs : List V} (e : Same H H') (h : SqT K H a xs) : SqT K H' a xs := by
  rcases h with (h | ⟨o, h⟩) | h
  · exact .inl (.inl (e _ _ h))
  · exact .inl (.inr ⟨o, e _ _ h⟩)
  · exact .inr h

section
variable {T : Tb} {H H' : Hp}
mutual
theorem Rep.mono (e : Same H H') : ∀ {v : V} {d : D}, Rep T H v d → Rep T H' v d
  | _, _, .non => .non
  | _, _, .bl b => .bl b
  | _, _, .int i => .int i
  | _, _, .str s => .str s
  | _, _, .tup h r => .tup (seqT e h) (RepA.mono e r)
  | _, _, .lst h r => .lst (e _ _ h) (RepA.mono e r)
  | _, _, .scr h => .scr (e.seq h)
  | _, _, .obj h c r => .obj (e _ _ h) c (RepA.mono e r)
theorem RepA.mono (e : Same H H') : ∀ {vs : List V} {ds : List D}, RepA T H vs ds → RepA T H' vs ds
  | _, _, .nil => .nil
  | _, _, .cons r t => .cons (Rep.mono e r) (RepA.mono e t)
end
theorem RepA.length : ∀ {vs : List V} {ds : List D}, RepA T H vs ds → vs.length = ds.length
  | _, _, .nil => rfl
  | _, _, .cons _ t => by simp [RepA.length t]
theorem RepA.get : ∀ {vs : List V} {ds : List D} {i : Nat} {d : D}, RepA T H vs ds → ds[i]? = some d → ∃ v, vs[i]? = some v ∧ Rep T H v d
  | _, _, _, _, .nil, e => by simp at e
  | _, _, 0, _, .cons r _, e => by simp at e; subst e; exact ⟨_, rfl, r⟩
  | _, _, i + 1, _, .cons _ t, e => by
    obtain ⟨v, h1, h2⟩ := RepA.get (i := i) t (by simpa using e)
    exact ⟨v, by simpa using h1, h2⟩
theorem RepA.append : ∀ {vs : List V} {ds : List D} {us : List V} {es : List D}, RepA T H vs ds → RepA T H us es → RepA T H (vs ++ us) (ds ++ es)
  | _, _, _, _, .nil, q => q
  | _, _, _, _, .cons r t, q => .cons r (RepA.append t q)
theorem RepA.take : ∀ {vs : List V} {ds : List D} (n : Nat), RepA T H vs ds → RepA T H (vs.take n) (ds.take n)
  | _, _, 0, _ => .nil
  | _, _, _ + 1, .nil => .nil
  | _, _, n + 1, .cons r t => .cons r (RepA.take n t)
theorem RepA.drop : ∀ {vs : List V} {ds : List D} (n : Nat), RepA T H vs ds → RepA T H (vs.drop n) (ds.drop n)
  | _, _, 0, r => r
  | _, _, _ + 1, .nil => .nil
  | _, _, n + 1, .cons _ t => RepA.drop n t
theorem RepA.ints : ∀ {ns : List Int} {vs : List V}, RepA T H vs (ns.map D.int) → vs = ns.map V.int
  | [], _, .nil => rfl
  | _ :: ns, _, .cons (.int i) t => by rw [List.map_cons, RepA.ints t]
theorem RepA.of_ints : ∀ (ns : List Int), RepA T H (ns.map V.int) (ns.map D.int)
  | [] => .nil
  | n :: ns => .cons (.int n) (RepA.of_ints ns)
theorem RepA.rev {vs : List V} {ds : List D} (h : RepA T H vs ds) : RepA T H vs.reverse ds.reverse := by
  induction vs generalizing ds with
  | nil => cases h; exact .nil
  | cons v vs ih =>
    cases h with
    | cons r t =>
      rw [List.reverse_cons, List.reverse_cons]
      exact (ih t).append (.cons r .nil)
theorem RepA.rep {vs : List V} {ds : List D} (h : RepA T H vs ds) : ∀ n : Nat, RepA T H (List.replicate n vs).flatten (List.replicate n ds).flatten
  | 0 => .nil
  | n + 1 => by
    rw [List.replicate_succ, List.flatten_cons, List.replicate_succ, List.flatten_cons]
    exact h.append (RepA.rep h n)
theorem RepA.set : ∀ {vs : List V} {ds : List D} {v : V} {d : D} (i : Nat), RepA T H vs ds → Rep T H v d → RepA T H (vs.set i v) (ds.set i d)
  | _, _, _, _, _, .nil, _ => .nil
  | _, _, _, _, 0, .cons _ t, q => .cons q t
  | _, _, _, _, i + 1, .cons r t, q => .cons r (RepA.set i t q)
end

/-! ### what a frame owns -/
/-- how a value is held: fz: it stands still; ol t: a list of one's own, its items held as t; ot: a new tuple; oi: an instance of one's own -/
inductive OT where
  | fz | ol (t : OT) | ot (ts : List OT) | oi (ts : List OT)

mutual
inductive Own (T : Tb) (A H : Hp) : OT → List Addr → V → D → Prop
  | fz {v d} : Rep T A v d → Own T A H .fz [] v d
  | ol {t f p vs ds} : H p = some (.lst vs) → OwnL T A H (List.replicate vs.length t) f vs ds → Own T A H (.ol t) (p :: f) (.ref p) (.lst ds)
  | ot {ts f p vs ds} : H p = some (.tup vs) → OwnL T A H ts f vs ds → Own T A H (.ot ts) (p :: f) (.ref p) (.tup ds)
  | oi {ts f p C dx fs c ds} : H p = some (.ins C dx fs) → T.cls c = some C → OwnL T A H ts f (fs.map (·.2)) ds → Own T A H (.oi ts) (p :: f) (.ref p) (.obj c (fs.map (·.1)) ds)
inductive OwnL (T : Tb) (A H : Hp) : List OT → List Addr → List V → List D → Prop
  | nil : OwnL T A H [] [] [] []
  | cons {t ts f g v vs d ds} : Own T A H t f v d → OwnL T A H ts g vs ds → OwnL T A H (t :: ts) (f ++ g) (v :: vs) (d :: ds)
end
section
variable {T : Tb} {A A' H H' B : Hp}
mutual
theorem Own.mono (ea : Same A A') : ∀ {t : OT} {f : List Addr} {v : V} {d : D}, (∀ a ∈ f, ∀ o, H a = some o → H' a = some o) → Own T A H t f v d → Own T A' H' t f v d
  | _, _, _, _, _, .fz r => .fz (r.mono ea)
  | _, _, _, _, k, .ol h r => .ol (k _ List.mem_cons_self _ h) (OwnL.mono ea (fun a ha => k a (List.mem_cons_of_mem _ ha)) r)
  | _, _, _, _, k, .ot h r => .ot (k _ List.mem_cons_self _ h) (OwnL.mono ea (fun a ha => k a (List.mem_cons_of_mem _ ha)) r)
  | _, _, _, _, k, .oi h c r => .oi (k _ List.mem_cons_self _ h) c (OwnL.mono ea (fun a ha => k a (List.mem_cons_of_mem _ ha)) r)
theorem OwnL.mono (ea : Same A A') : ∀ {ts : List OT} {f : List Addr} {vs : List V} {ds : List D}, (∀ a ∈ f, ∀ o, H a = some o → H' a = some o) → OwnL T A H ts f vs ds → OwnL T A' H' ts f vs ds
  | _, _, _, _, _, .nil => .nil
  | _, _, _, _, k, .cons r q => .cons (Own.mono ea (fun a ha => k a (List.mem_append_left _ ha)) r) (OwnL.mono ea (fun a ha => k a (List.mem_append_right _ ha)) q)
end
mutual
/-- what is owned may stand still from now on -/
theorem Own.rep (ea : Same A B) : ∀ {t : OT} {f : List Addr} {v : V} {d : D}, (∀ a ∈ f, ∀ o, H a = some o → B a = some o) → Own T A H t f v d → Rep T B v d
  | _, _, _, _, _, .fz r => r.mono ea
  | _, _, _, _, k, .ol h r => .lst (k _ List.mem_cons_self _ h) (OwnL.rep ea (fun a ha => k a (List.mem_cons_of_mem _ ha)) r)
  | _, _, _, _, k, .ot h r => .tup (.of (k _ List.mem_cons_self _ h)) (OwnL.rep ea (fun a ha => k a (List.mem_cons_of_mem _ ha)) r)
  | _, _, _, _, k, .oi h c r => .obj (k _ List.mem_cons_self _ h) c (OwnL.rep ea (fun a ha => k a (List.mem_cons_of_mem _ ha)) r)
theorem OwnL.rep (ea : Same A B) : ∀ {ts : List OT} {f : List Addr} {vs : List V} {ds : List D}, (∀ a ∈ f, ∀ o, H a = some o → B a = some o) → OwnL T A H ts f vs ds → RepA T B vs ds
  | _, _, _, _, _, .nil => .nil
  | _, _, _, _, k, .cons r q => .cons (Own.rep ea (fun a ha => k a (List.mem_append_left _ ha)) r) (OwnL.rep ea (fun a ha => k a (List.mem_append_right _ ha)) q)
end
mutual
theorem Own.dom : ∀ {t : OT} {f : List Addr} {v : V} {d : D}, Own T A H t f v d → ∀ a ∈ f, H a ≠ none
  | _, _, _, _, .fz _, a, ha => by cases ha
  | _, _, _, _, .ol h r, a, ha => (List.mem_cons.mp ha).elim (fun e => by rw [e, h]; simp) (OwnL.dom r a)
  | _, _, _, _, .ot h r, a, ha => (List.mem_cons.mp ha).elim (fun e => by rw [e, h]; simp) (OwnL.dom r a)
  | _, _, _, _, .oi h _ r, a, ha => (List.mem_cons.mp ha).elim (fun e => by rw [e, h]; simp) (OwnL.dom r a)
theorem OwnL.dom : ∀ {ts : List OT} {f : List Addr} {vs : List V} {ds : List D}, OwnL T A H ts f vs ds → ∀ a ∈ f, H a ≠ none
  | _, _, _, _, .nil, a, ha => by cases ha
  | _, _, _, _, .cons r q, a, ha => (List.mem_append.mp ha).elim (Own.dom r a) (OwnL.dom q a)
end
theorem OwnL.length : ∀ {ts : List OT} {f : List Addr} {vs : List V} {ds : List D}, OwnL T A H ts f vs ds → vs.length = ds.length ∧ ts.length = ds.length
  | _, _, _, _, .nil => ⟨rfl, rfl⟩
  | _, _, _, _, .cons _ q => by simp [OwnL.length q]
/-- items that stand still are held so, with nothing owned -/
theorem OwnL.of_rep : ∀ {vs : List V} {ds : List D}, RepA T A vs ds → OwnL T A H (List.replicate vs.length .fz) [] vs ds
  | _, _, .nil => .nil
  | _, _, .cons r t => OwnL.cons (f := []) (.fz r) (OwnL.of_rep t)
theorem OwnL.to_rep : ∀ {n : Nat} {f : List Addr} {vs : List V} {ds : List D}, OwnL T A H (List.replicate n .fz) f vs ds → f = [] ∧ RepA T A vs ds
  | 0, _, _, _, h => by
    cases h
    exact ⟨rfl, .nil⟩
  | n + 1, _, _, _, h => by
    rw [List.replicate_succ] at h
    cases h with
    | cons r q =>
      cases r with
      | fz r =>
        obtain ⟨e, t⟩ := OwnL.to_rep q
        exact ⟨by simp [e], .cons r t⟩
theorem OwnL.get : ∀ {ts : List OT} {f : List Addr} {vs : List V} {ds : List D} {i : Nat} {d : D}, OwnL T A H ts f vs ds → ds[i]? = some d →
    ∃ v t g, vs[i]? = some v ∧ ts[i]? = some t ∧ Own T A H t g v d ∧ (∀ a ∈ g, a ∈ f) ∧ (f.Nodup → g.Nodup)
  | _, _, _, _, _, _, .nil, e => by simp at e
  | _, _, _, _, 0, _, .cons r _, e => by
    simp at e; subst e
    exact ⟨_, _, _, rfl, rfl, r, fun a ha => List.mem_append_left _ ha, fun n => (List.nodup_append.mp n).1⟩
  | _, _, _, _, i + 1, _, .cons _ q, e => by
    obtain ⟨v, t, g, h1, h2, h3, h4, h5⟩ := OwnL.get (i := i) q (by simpa using e)
    exact ⟨v, t, g, by simpa using h1, by simpa using h2, h3, fun a ha => List.mem_append_right _ (h4 a ha), fun n => h5 (List.nodup_append.mp n).2.1⟩
end

/-! ### the part of the heap that stands still -/
open Classical in
/-- the heap without what U holds -/
noncomputable def msk (H : Hp) (U : Addr → Prop) : Hp := fun a => if U a then none else H a
theorem msk_some {H : Hp} {U : Addr → Prop} {a : Addr} {o : HO} : msk H U a = some o ↔ ¬ U a ∧ H a = some o := by
  unfold msk
  split
  · rename_i h; simp [h]
  · rename_i h; simp [h]
theorem msk_same {H : Hp} {U : Addr → Prop} : Same (msk H U) H := fun _ _ h => (msk_some.mp h).2
theorem msk_mono {H H' : Hp} {U U' : Addr → Prop} (s : Same H H') (h : ∀ a, U' a → U a ∨ H a = none) : Same (msk H U) (msk H' U') := fun a o e => by
  obtain ⟨h1, h2⟩ := msk_some.mp e
  refine msk_some.mpr ⟨fun q => ?_, s _ _ h2⟩
  rcases h a q with z | z
  · exact h1 z
  · rw [z] at h2; cases h2
end Pv

/-! Pv, part B: a small language of plain data (expressions IE, statements IS), and what it computes. -/
namespace Pv
open PySem

/-! ### equality of data -/
mutual
def D.py : D → Option PyData
  | .non => some .none
  | .bl b => some (.bool b)
  | .int i => some (.int i)
  | .str s => some (.str s)
  | .tup ds => (D.pyA ds).map .tuple
  | .lst ds => (D.pyA ds).map .list
  | .scr _ => none
  | .obj _ _ _ => none
def D.pyA : List D → Option (List PyData)
  | [] => some []
  | d :: ds => match D.py d, D.pyA ds with
    | some x, some xs => some (x :: xs)
    | _, _ => none
end
mutual
def D.dp : D → Nat
  | .tup ds => D.dpA ds + 1
  | .lst ds => D.dpA ds + 1
  | _ => 0
def D.dpA : List D → Nat
  | [] => 0
  | d :: ds => max (D.dp d) (D.dpA ds)
end
mutual
def D.cmpOk : D → Bool
  | .non | .bl _ | .int _ => true
  | .str s => PyData.strOk s
  | .tup ds => D.cmpOkA ds
  | .lst ds => D.cmpOkA ds
  | .scr _ => false
  | .obj _ _ _ => false
def D.cmpOkA : List D → Bool
  | [] => true
  | d :: ds => D.cmpOk d && D.cmpOkA ds
end
mutual
def D.eqv : D → D → Bool
  | .non, .non => true
  | .bl a, .bl b => a == b
  | .int a, .int b => a == b
  | .bl a, .int b => (if a then 1 else 0) == b
  | .int a, .bl b => a == (if b then 1 else 0)
  | .str a, .str b => a == b
  | .tup a, .tup b => D.eqvA a b
  | .lst a, .lst b => D.eqvA a b
  | _, _ => false
def D.eqvA : List D → List D → Bool
  | [], [] => true
  | a :: as, b :: bs => D.eqv a b && D.eqvA as bs
  | _, _ => false
end
mutual
theorem D.py_of : ∀ {d : D}, D.cmpOk d = true → ∃ p, D.py d = some p ∧ p.canLay0 = true ∧ p.depth = D.dp d
  | .non, _ => ⟨_, rfl, rfl, rfl⟩
  | .bl _, _ => ⟨_, rfl, rfl, rfl⟩
  | .int _, _ => ⟨_, rfl, rfl, rfl⟩
  | .str s, h => ⟨_, rfl, by simpa [PyData.canLay0, D.cmpOk] using h, rfl⟩
  | .tup ds, h => by
    obtain ⟨ps, e, l, k⟩ := D.pyA_of (ds := ds) (by simpa [D.cmpOk] using h)
    exact ⟨.tuple ps, by simp [D.py, e], by simpa [PyData.canLay0] using l, by simp [PyData.depth, D.dp, k]⟩
  | .lst ds, h => by
    obtain ⟨ps, e, l, k⟩ := D.pyA_of (ds := ds) (by simpa [D.cmpOk] using h)
    exact ⟨.list ps, by simp [D.py, e], by simpa [PyData.canLay0] using l, by simp [PyData.depth, D.dp, k]⟩
  | .scr _, h => by simp [D.cmpOk] at h
  | .obj _ _ _, h => by simp [D.cmpOk] at h
theorem D.pyA_of : ∀ {ds : List D}, D.cmpOkA ds = true → ∃ ps, D.pyA ds = some ps ∧ PyData.canLayAll0 ps = true ∧ PyData.depthAll ps = D.dpA ds
  | [], _ => ⟨[], rfl, rfl, rfl⟩
  | d :: ds, h => by
    simp only [D.cmpOkA, Bool.and_eq_true] at h
    obtain ⟨p, e1, l1, k1⟩ := D.py_of h.1
    obtain ⟨ps, e2, l2, k2⟩ := D.pyA_of h.2
    exact ⟨p :: ps, by simp [D.pyA, e1, e2], by simp [PyData.canLayAll0, l1, l2], by simp [PyData.depthAll, D.dpA, k1, k2]⟩
end
mutual
theorem D.eqv_py : ∀ {a b : D} {p q : PyData}, D.py a = some p → D.py b = some q → PyData.eqv p q = D.eqv a b
  | .non, b, p, q, h1, h2 => by
    cases h1
    cases b <;> simp [D.py, Option.map_eq_some_iff] at h2 <;> first | (obtain ⟨_, _, rfl⟩ := h2; rfl) | (subst h2; rfl)
  | .bl x, b, p, q, h1, h2 => by
    cases h1
    cases b <;> simp [D.py, Option.map_eq_some_iff] at h2 <;> first | (obtain ⟨_, _, rfl⟩ := h2; rfl) | (subst h2; rfl)
  | .int x, b, p, q, h1, h2 => by
    cases h1
    cases b <;> simp [D.py, Option.map_eq_some_iff] at h2 <;> first | (obtain ⟨_, _, rfl⟩ := h2; rfl) | (subst h2; rfl)
  | .str x, b, p, q, h1, h2 => by
    cases h1
    cases b <;> simp [D.py, Option.map_eq_some_iff] at h2 <;> first | (obtain ⟨_, _, rfl⟩ := h2; rfl) | (subst h2; rfl)
  | .tup x, b, p, q, h1, h2 => by
    simp only [D.py, Option.map_eq_some_iff] at h1
    obtain ⟨ps, e1, rfl⟩ := h1
    cases b with
    | tup y =>
      simp only [D.py, Option.map_eq_some_iff] at h2
      obtain ⟨qs, e2, rfl⟩ := h2
      simp only [PyData.eqv, D.eqv]
      exact D.eqvA_py e1 e2
    | lst y =>
      simp only [D.py, Option.map_eq_some_iff] at h2
      obtain ⟨qs, e2, rfl⟩ := h2
      rfl
    | _ => first | (cases h2; rfl) | (simp [D.py] at h2)
  | .lst x, b, p, q, h1, h2 => by
    simp only [D.py, Option.map_eq_some_iff] at h1
    obtain ⟨ps, e1, rfl⟩ := h1
    cases b with
    | lst y =>
      simp only [D.py, Option.map_eq_some_iff] at h2
      obtain ⟨qs, e2, rfl⟩ := h2
      simp only [PyData.eqv, D.eqv]
      exact D.eqvA_py e1 e2
    | tup y =>
      simp only [D.py, Option.map_eq_some_iff] at h2
      obtain ⟨qs, e2, rfl⟩ := h2
      rfl
    | _ => first | (cases h2; rfl) | (simp [D.py] at h2)
  | .scr _, _, _, _, h1, _ => by simp [D.py] at h1
  | .obj _ _ _, _, _, _, h1, _ => by simp [D.py] at h1
theorem D.eqvA_py : ∀ {a b : List D} {p q : List PyData}, D.pyA a = some p → D.pyA b = some q → PyData.eqvAll p q = D.eqvA a b
  | [], [], p, q, h1, h2 => by cases h1; cases h2; rfl
  | [], y :: ys, p, q, h1, h2 => by
    cases h1
    simp only [D.pyA] at h2
    split at h2 <;> cases h2
    rfl
  | x :: xs, [], p, q, h1, h2 => by
    cases h2
    simp only [D.pyA] at h1
    split at h1 <;> cases h1
    rfl
  | x :: xs, y :: ys, p, q, h1, h2 => by
    simp only [D.pyA] at h1 h2
    split at h1
    · rename_i e1 e2
      split at h2
      · rename_i e3 e4
        cases h1
        cases h2
        simp only [PyData.eqvAll, D.eqvA]
        rw [D.eqv_py e1 e3, D.eqvA_py e2 e4]
      · cases h2
    · cases h1
end

/-! ### what comes out -/
inductive R where
  | ok (d : D) | ex (c : Str) (ds : List D) | bad
def R.bind : R → (D → R) → R
  | .ok d, f => f d
  | .ex c ds, _ => .ex c ds
  | .bad, _ => .bad
@[simp] theorem R.bind_ok (d : D) (f : D → R) : (R.ok d).bind f = f d := rfl
@[simp] theorem R.bind_ex (c : Str) (ds : List D) (f : D → R) : (R.ex c ds).bind f = .ex c ds := rfl
@[simp] theorem R.bind_bad (f : D → R) : R.bad.bind f = .bad := rfl

/-! ### expressions -/
inductive BOp where | add | sub | mul | fdiv | mod | pow
  deriving DecidableEq
inductive COp where | eq | ne | lt | le | gt | ge
  deriving DecidableEq
/-- built-in calls -/
inductive Blt where
  | len | abs | int | min | max | list | tuple | gcd
  | isBool | isInt | isTuple | isList | isStr
  deriving DecidableEq
/-- what a for or a comprehension goes over -/
inductive Itr where | val | rng | zip | enu | rev
  deriving DecidableEq
/-- targets -/
inductive Tg where
  | nm (i : Nat) | tp (t : Tg) | nil | cons (t ts : Tg)
inductive IE where
  | vr (i : Nat) | ct (d : D) | gl (x : Str) (d : D)
  | nil | cons (e a : IE)
  | tp (as : IE) | ls (as : IE)
  | bin (o : BOp) (a b : IE) | neg (a : IE)
  | cmp (o : COp) (a b : IE) | cmp2 (o p : COp) (a b c : IE)
  | isN (a : IE) | ntN (a : IE)
  | and (a b : IE) | or (a b : IE) | not (a : IE) | ife (c a b : IE)
  | call (f : Nat) (as : IE)
  | blt (b : Blt) (as : IE)
  | ix (a i : IE) | sl (a lo hi : IE) | slF (a lo : IE) | slT (a hi : IE)
  | it (k : Itr) (as : IE)
  | lc (e : IE) (t : Tg) (it c : IE)

abbrev Env := List (Option D)
def lim : Nat := 1000000
def mulOk (i j : Int) : Bool := i.natAbs.log2 + j.natAbs.log2 < 1000000
def divOk (j : Int) : Bool := j != 0 && j.natAbs.log2 < 9000
def powOk (i j : Int) : Bool := 0 ≤ j && j ≤ 1000000 && i.natAbs < 2 ^ 64
def mkL (ds : List D) : R := if ds.length ≤ lim then .ok (.lst ds) else .bad
def mkT (ds : List D) : R := if ds.length ≤ lim then .ok (.tup ds) else .bad
def binD : BOp → D → D → R
  | .add, .int i, .int j => .ok (.int (i + j))
  | .sub, .int i, .int j => .ok (.int (i - j))
  | .mul, .int i, .int j => if mulOk i j then .ok (.int (i * j)) else .bad
  | .fdiv, .int i, .int j => if divOk j then .ok (.int (i.fdiv j)) else .bad
  | .mod, .int i, .int j => if j != 0 then .ok (.int (i.fmod j)) else .bad
  | .pow, .int i, .int j => if powOk i j then .ok (.int (i ^ j.toNat)) else .bad
  | .add, .lst a, .lst b => mkL (a ++ b)
  | .add, .tup a, .tup b => mkT (a ++ b)
  | .mul, .lst a, .int k => if -1000000 ≤ k ∧ k ≤ 1000000 then mkL (List.replicate k.toNat a).flatten else .bad
  | _, _, _ => .bad
def cmpI : COp → Int → Int → Bool
  | .eq, i, j => i == j
  | .ne, i, j => i != j
  | .lt, i, j => decide (i < j)
  | .le, i, j => decide (i ≤ j)
  | .gt, i, j => decide (j < i)
  | .ge, i, j => decide (j ≤ i)
def eqD (a b : D) : R := if D.cmpOk a && D.cmpOk b && decide (D.dp a ≤ 60) && decide (D.dp b ≤ 60) then .ok (.bl (D.eqv a b)) else .bad
def notR : R → R
  | .ok (.bl b) => .ok (.bl (!b))
  | _ => .bad
def cmpD : COp → D → D → R
  | .eq, a, b => eqD a b
  | .ne, a, b => notR (eqD a b)
  | o, .int i, .int j => .ok (.bl (cmpI o i j))
  | _, _, _ => .bad
/-- the place that an index names -/
abbrev ixn (n : Nat) (i : Int) : Option Nat := L2.ixN n i
def atD (ds : List D) (i : Int) : R := match (ixn ds.length i).bind fun j => ds[j]? with
  | some d => .ok d
  | none => .bad
def ixD : D → D → R
  | .lst ds, .int i => atD ds i
  | .tup ds, .int i => atD ds i
  | .scr ns, .int i => atD (ns.map .int) i
  | _, _ => .bad
/-- a slice's bound -/
abbrev cutN (n d : Nat) (k : Option Int) : Nat := HT.sIx n d k
def cutL (ds : List D) (lo hi : Option Int) : List D := (ds.drop (cutN ds.length 0 lo)).take (cutN ds.length ds.length hi - cutN ds.length 0 lo)
def slO : D → Option Int → Option Int → R
  | .lst ds, lo, hi => mkL (cutL ds lo hi)
  | .tup ds, lo, hi => mkT (cutL ds lo hi)
  | .scr ns, lo, hi => mkL (cutL (ns.map .int) lo hi)
  | _, _, _ => .bad
def intR : D → (Int → R) → R
  | .int i, f => f i
  | _, _ => .bad
def bltD : Blt → List D → R
  | .len, [.lst ds] => .ok (.int ds.length)
  | .len, [.tup ds] => .ok (.int ds.length)
  | .len, [.scr ns] => .ok (.int ns.length)
  | .abs, [.int i] => .ok (.int (if i < 0 then -i else i))
  | .int, [.int i] => .ok (.int i)
  | .min, [.int i, .int j] => .ok (.int (if j < i then j else i))
  | .max, [.int i, .int j] => .ok (.int (if j > i then j else i))
  | .list, [.lst ds] => .ok (.lst ds)
  | .list, [.tup ds] => .ok (.lst ds)
  | .list, [.scr ns] => .ok (.lst (ns.map .int))
  | .tuple, [.lst ds] => .ok (.tup ds)
  | .tuple, [.tup ds] => .ok (.tup ds)
  | .gcd, [.int i, .int j] => .ok (.int (Nat.gcd i.natAbs j.natAbs : Nat))
  | .isBool, [d] => match d with | .bl _ => .ok (.bl true) | .int _ | .non | .str _ | .tup _ | .lst _ => .ok (.bl false) | _ => .bad
  | .isInt, [d] => match d with | .bl _ | .int _ => .ok (.bl true) | .non | .str _ | .tup _ | .lst _ => .ok (.bl false) | _ => .bad
  | .isTuple, [d] => match d with | .tup _ => .ok (.bl true) | .bl _ | .int _ | .non | .str _ | .lst _ => .ok (.bl false) | _ => .bad
  | .isList, [d] => match d with | .lst _ => .ok (.bl true) | .bl _ | .int _ | .non | .str _ | .tup _ => .ok (.bl false) | _ => .bad
  | .isStr, [d] => match d with | .str _ => .ok (.bl true) | .bl _ | .int _ | .non | .lst _ | .tup _ => .ok (.bl false) | _ => .bad
  | _, _ => .bad
def rngOk (i : Int) : Bool := -1000000000 ≤ i && i ≤ 1000000000
def zipD : List D → List D → List D
  | a :: as, b :: bs => .tup [a, b] :: zipD as bs
  | _, _ => []
def enuD : Nat → List D → List D
  | _, [] => []
  | n, d :: ds => .tup [.int n, d] :: enuD (n + 1) ds
def seqD : D → Option (List D)
  | .lst ds => some ds
  | .tup ds => some ds
  | .scr ns => some (ns.map .int)
  | _ => none
/-- the items that are gone through, as a tuple -/
def itD : Itr → List D → R
  | .val, [d] => match seqD d with | some ds => .ok (.tup ds) | none => .bad
  | .rng, [.int j] => if rngOk j then .ok (.tup ((List.range j.toNat).map fun k : Nat => .int k)) else .bad
  | .rng, [.int i, .int j] => if rngOk i && rngOk j then .ok (.tup ((List.range (j - i).toNat).map fun k : Nat => .int (i + k))) else .bad
  | .zip, [.lst x, .lst y] => .ok (.tup (zipD x y))
  | .zip, [.lst x, .tup y] => .ok (.tup (zipD x y))
  | .zip, [.tup x, .lst y] => .ok (.tup (zipD x y))
  | .zip, [.tup x, .tup y] => .ok (.tup (zipD x y))
  | .enu, [.lst x] => .ok (.tup (enuD 0 x))
  | .rev, [.lst x] => .ok (.tup x.reverse)
  | .rev, [.tup x] => .ok (.tup x.reverse)
  | _, _ => .bad
def argD : R → (List D → R) → R
  | .ok (.tup ds), f => f ds
  | .ok _, _ => .bad
  | .ex c ds, _ => .ex c ds
  | .bad, _ => .bad
@[simp] theorem argD_ok (ds : List D) (f : List D → R) : argD (.ok (.tup ds)) f = f ds := rfl
def consD : R → R → R
  | .ok d, .ok (.tup ds) => .ok (.tup (d :: ds))
  | .ok _, .ok _ => .bad
  | .ok _, r => r
  | r, _ => r
@[simp] theorem consD_ok (d : D) (ds : List D) : consD (.ok d) (.ok (.tup ds)) = .ok (.tup (d :: ds)) := rfl

/-- what a target binds -/
def bindT : Tg → D → Env → Option Env
  | .nm i, d, env => some (env.set i (some d))
  | .tp t, .tup ds, env => bindT t (.tup ds) env
  | .tp _, _, _ => none
  | .nil, .tup [], env => some env
  | .nil, _, _ => none
  | .cons t ts, .tup (d :: ds), env => (bindT t d env).bind (bindT ts (.tup ds))
  | .cons _ _, _, _ => none
/-- the slots that a target binds -/
def Tg.own : Tg → List Nat
  | .nm i => [i]
  | .tp t => t.own
  | .nil => []
  | .cons t ts => t.own ++ ts.own
def wipeE (env : Env) : List Nat → Env
  | [] => env
  | v :: vs => (wipeE env vs).set v none
/-- go through items; each is told: bad, left out, or kept as some item -/
def mapO (f : D → Option (Option D)) : List D → Option (List D)
  | [] => some []
  | d :: ds => match f d with
    | none => none
    | some none => mapO f ds
    | some (some v) => (mapO f ds).map (v :: ·)
def stepC (v : R) : Option (Option D) := match v with | .ok d => some (some d) | _ => none
def condC (c : R) (v : R) : Option (Option D) := match c with
  | .ok (.bl true) => stepC v
  | .ok (.bl false) => some none
  | _ => none
def lcD (r : R) (f : D → Option (Option D)) : R := argD r fun ds => if ds.length ≤ lim then (match mapO f ds with | some l => .ok (.lst l) | none => .bad) else .bad
def envO (o : Option Env) (f : Env → Option (Option D)) : Option (Option D) := match o with | some e => f e | none => none

abbrev Sem1 := Nat → List D → R
def ev (S : Sem1) (env : Env) : IE → R
  | .vr i => match env[i]? with | some (some d) => .ok d | _ => .bad
  | .ct d => .ok d
  | .gl _ d => .ok d
  | .nil => .ok (.tup [])
  | .cons e a => consD (ev S env e) (ev S env a)
  | .tp as => argD (ev S env as) mkT
  | .ls as => argD (ev S env as) mkL
  | .bin o a b => (ev S env a).bind fun x => (ev S env b).bind fun y => binD o x y
  | .neg a => (ev S env a).bind fun x => match x with | .int i => .ok (.int (-i)) | _ => .bad
  | .cmp o a b => (ev S env a).bind fun x => (ev S env b).bind fun y => cmpD o x y
  | .cmp2 o p a b c => (ev S env a).bind fun x => (ev S env b).bind fun y => match cmpD o x y with
    | .ok (.bl true) => (ev S env c).bind fun z => cmpD p y z
    | .ok (.bl false) => .ok (.bl false)
    | _ => .bad
  | .isN a => (ev S env a).bind fun x => match x with | .non => .ok (.bl true) | _ => .ok (.bl false)
  | .ntN a => (ev S env a).bind fun x => match x with | .non => .ok (.bl false) | _ => .ok (.bl true)
  | .and a b => (ev S env a).bind fun x => match x with | .bl true => ev S env b | .bl false => .ok (.bl false) | _ => .bad
  | .or a b => (ev S env a).bind fun x => match x with | .bl true => .ok (.bl true) | .bl false => ev S env b | _ => .bad
  | .not a => (ev S env a).bind fun x => match x with | .bl b => .ok (.bl (!b)) | _ => .bad
  | .ife c a b => (ev S env c).bind fun x => match x with | .bl true => ev S env a | .bl false => ev S env b | _ => .bad
  | .call f as => argD (ev S env as) (S f)
  | .blt b as => argD (ev S env as) (bltD b)
  | .ix a i => (ev S env a).bind fun x => (ev S env i).bind fun y => ixD x y
  | .sl a lo hi => (ev S env a).bind fun x => (ev S env lo).bind fun y => intR y fun i => (ev S env hi).bind fun z => intR z fun j => slO x (some i) (some j)
  | .slF a lo => (ev S env a).bind fun x => (ev S env lo).bind fun y => intR y fun i => slO x (some i) none
  | .slT a hi => (ev S env a).bind fun x => (ev S env hi).bind fun z => intR z fun j => slO x none (some j)
  | .it k as => argD (ev S env as) (itD k)
  | .lc e t it c => lcD (ev S env it) fun d => envO (bindT t d (wipeE env t.own)) fun env' => match c with
    | .nil => stepC (ev S env' e)
    | c => condC (ev S env' c) (ev S env' e)

/-! ### statements -/
inductive Fl where
  | nx (env : Env) | bk (env : Env) | ct (env : Env) | rt (d : D) | ex (c : Str) (ds : List D) | bad
inductive IS where
  | skip
  | seq (a b : IS)
  | frz (i : Nat)
  | set (i : Nat) (t : OT) (e : IE)
  | asg (t : Tg) (e : IE)
  | aug (i : Nat) (o : BOp) (e : IE)
  | sub (i : Nat) (k e : IE)
  | app (i : Nat) (e : IE)
  | expr (e : IE)
  | ret (e : IE) | retN
  | ite (c : IE) (a b : IS)
  | for (t : Tg) (it : IE) (b : IS)
  | whl (c : IE) (b : IS)
  | brk | cnt | pass | never
def Fl.andThen : Fl → (Env → Fl) → Fl
  | .nx env, f => f env
  | .bk env, _ => .bk env
  | .ct env, _ => .ct env
  | .rt d, _ => .rt d
  | .ex c ds, _ => .ex c ds
  | .bad, _ => .bad
@[simp] theorem Fl.andThen_nx (env : Env) (f : Env → Fl) : (Fl.nx env).andThen f = f env := rfl
@[simp] theorem Fl.andThen_rt (d : D) (f : Env → Fl) : (Fl.rt d).andThen f = .rt d := rfl
@[simp] theorem Fl.andThen_bk (e : Env) (f : Env → Fl) : (Fl.bk e).andThen f = .bk e := rfl
@[simp] theorem Fl.andThen_ct (e : Env) (f : Env → Fl) : (Fl.ct e).andThen f = .ct e := rfl
@[simp] theorem Fl.andThen_bad (f : Env → Fl) : Fl.bad.andThen f = .bad := rfl
@[simp] theorem Fl.andThen_ex (c : Str) (ds : List D) (f : Env → Fl) : (Fl.ex c ds).andThen f = .ex c ds := rfl
def R.fl : R → (D → Fl) → Fl
  | .ok d, f => f d
  | .ex c ds, _ => .ex c ds
  | .bad, _ => .bad
@[simp] theorem R.fl_ok (d : D) (f : D → Fl) : (R.ok d).fl f = f d := rfl
@[simp] theorem R.fl_ex (c : Str) (ds : List D) (f : D → Fl) : (R.ex c ds).fl f = .ex c ds := rfl
@[simp] theorem R.fl_bad (f : D → Fl) : R.bad.fl f = .bad := rfl
/-- a for: the turns over the items -/
def forL (f : D → Env → Fl) : List D → Env → Fl
  | [], env => .nx env
  | d :: ds, env => match f d env with
    | .nx e => forL f ds e
    | .ct e => forL f ds e
    | .bk e => .nx e
    | r => r
/-- a while: n turns at most -/
def whN (c : Env → R) (f : Env → Fl) : Nat → Env → Option Fl
  | 0, _ => none
  | n + 1, env => match c env with
    | .ok (.bl true) => (match f env with
      | .nx e => whN c f n e
      | .ct e => whN c f n e
      | .bk e => some (.nx e)
      | r => some r)
    | .ok (.bl false) => some (.nx env)
    | .ex k ds => some (.ex k ds)
    | _ => some .bad
open Classical in
/-- a while, of as many turns as it takes -/
noncomputable def whL (c : Env → R) (f : Env → Fl) (env : Env) : Fl :=
  if h : ∃ n r, whN c f n env = some r then (whN c f (choose h) env).getD .bad else .bad
def optF (o : Option Env) (f : Env → Fl) : Fl := match o with | some e => f e | none => .bad
noncomputable def exec (S : Sem1) (env : Env) : IS → Fl
  | .skip => .nx env
  | .seq a b => (exec S env a).andThen fun e => exec S e b
  | .frz _ => .nx env
  | .set i _ e => (ev S env e).fl fun d => .nx (env.set i (some d))
  | .asg t e => (ev S env e).fl fun d => optF (bindT t d env) .nx
  | .aug i o e => match env[i]? with
    | some (some x) => (ev S env e).fl fun y => (binD o x y).fl fun z => .nx (env.set i (some z))
    | _ => .bad
  | .sub i k e => (ev S env e).fl fun v => match env[i]? with
    | some (some (.lst ds)) => (ev S env k).fl fun j => match j with
      | .int j => (match ixn ds.length j with
        | some n => .nx (env.set i (some (.lst (ds.set n v))))
        | none => .bad)
      | _ => .bad
    | _ => .bad
  | .app i e => match env[i]? with
    | some (some (.lst ds)) => (ev S env e).fl fun v => if ds.length < lim then .nx (env.set i (some (.lst (ds ++ [v])))) else .bad
    | _ => .bad
  | .expr e => (ev S env e).fl fun _ => .nx env
  | .ret e => (ev S env e).fl .rt
  | .retN => .rt .non
  | .ite c a b => (ev S env c).fl fun x => match x with | .bl true => exec S env a | .bl false => exec S env b | _ => .bad
  | .for t it b => match ev S env it with
    | .ok (.tup ds) => forL (fun d e => optF (bindT t d e) fun e' => exec S e' b) ds env
    | .ex c ds => .ex c ds
    | _ => .bad
  | .whl c b => whL (fun e => ev S e c) (fun e => exec S e b) env
  | .brk => .bk env
  | .cnt => .ct env
  | .pass => .nx env
  | .never => .bad

/-! ### the loops' equations -/
theorem whN_mono {c : Env → R} {f : Env → Fl} : ∀ {n : Nat} {env : Env} {r : Fl}, whN c f n env = some r → ∀ k, whN c f (n + k) env = some r
  | 0, _, _, h, _ => by simp [whN] at h
  | n + 1, env, r, h, k => by
    rw [show n + 1 + k = (n + k) + 1 by omega]
    rw [whN] at h ⊢
    cases hc : c env with
    | ok d =>
      rw [hc] at h
      cases d with
      | bl b =>
        cases b with
        | true =>
          simp only at h ⊢
          cases hf : f env with
          | nx e => rw [hf] at h; exact whN_mono h k
          | ct e => rw [hf] at h; exact whN_mono h k
          | bk e => rw [hf] at h; exact h
          | rt d => rw [hf] at h; exact h
          | ex a b => rw [hf] at h; exact h
          | bad => rw [hf] at h; exact h
        | false => exact h
      | _ => exact h
    | ex a b => rw [hc] at h; exact h
    | bad => rw [hc] at h; exact h
theorem whN_det {c : Env → R} {f : Env → Fl} {n m : Nat} {env : Env} {r q : Fl} (h : whN c f n env = some r) (g : whN c f m env = some q) : r = q := by
  have h1 := whN_mono h m
  have h2 := whN_mono g n
  rw [show m + n = n + m by omega] at h2
  rw [h1] at h2
  exact Option.some.inj h2
theorem whL_of {c : Env → R} {f : Env → Fl} {n : Nat} {env : Env} {r : Fl} (h : whN c f n env = some r) : whL c f env = r := by
  unfold whL
  have hx : ∃ n r, whN c f n env = some r := ⟨n, r, h⟩
  rw [dif_pos hx]
  obtain ⟨q, hq⟩ := Classical.choose_spec hx
  rw [hq, whN_det h hq]
  rfl
theorem whL_ends {c : Env → R} {f : Env → Fl} {env : Env} (h : whL c f env ≠ .bad) : ∃ n, whN c f n env = some (whL c f env) := by
  unfold whL at h ⊢
  split
  · rename_i hx
    obtain ⟨q, hq⟩ := Classical.choose_spec hx
    exact ⟨_, by rw [hq]; rfl⟩
  · rename_i hx
    rw [dif_neg hx] at h
    exact absurd rfl h
/-- a while's one turn -/
theorem whL_eq (c : Env → R) (f : Env → Fl) (env : Env) : whL c f env = (c env).fl fun x => match x with
    | .bl true => (match f env with
      | .nx e => whL c f e
      | .ct e => whL c f e
      | .bk e => .nx e
      | r => r)
    | .bl false => .nx env
    | _ => .bad := by
  have go : ∀ e, (∀ n, whN c f (n + 1) env = whN c f n e) → whL c f env = whL c f e := fun e k => by
    by_cases h : whL c f e = .bad
    · by_cases h' : whL c f env = .bad
      · rw [h, h']
      · obtain ⟨n, hn⟩ := whL_ends h'
        cases n with
        | zero => simp [whN] at hn
        | succ n =>
          rw [k] at hn
          exact (whL_of hn).symm
    · obtain ⟨n, hn⟩ := whL_ends h
      rw [← k] at hn
      exact whL_of hn
  cases hc : c env with
  | ok d =>
    cases d with
    | bl b =>
      cases b with
      | true =>
        simp only [R.fl_ok]
        cases hf : f env with
        | nx e => exact go e fun n => (by rw [whN]; simp only [hc, hf])
        | ct e => exact go e fun n => (by rw [whN]; simp only [hc, hf])
        | bk e => exact whL_of (n := 1) (by unfold whN; rw [hc]; simp only [hf])
        | rt d => exact whL_of (n := 1) (by unfold whN; rw [hc]; simp only [hf])
        | ex a b => exact whL_of (n := 1) (by unfold whN; rw [hc]; simp only [hf])
        | bad => exact whL_of (n := 1) (by unfold whN; rw [hc]; simp only [hf])
      | false => exact whL_of (n := 1) (by unfold whN; rw [hc]; rfl)
    | _ => exact whL_of (n := 1) (by unfold whN; rw [hc]; rfl)
  | ex a b => exact whL_of (n := 1) (by unfold whN; rw [hc]; rfl)
  | bad => exact whL_of (n := 1) (by unfold whN; rw [hc]; rfl)

/-! ### a text of defs -/
structure FD where
  np : Nat
  ns : Nat
  ty : OT
  body : IS
def Fl.out : Fl → R
  | .rt d => .ok d
  | .nx _ => .ok .non
  | .ex c ds => .ex c ds
  | _ => .bad
noncomputable def runF (S : Sem1) (F : FD) (as : List D) : R := if as.length = F.np then (exec S (as.map some ++ List.replicate (F.ns - F.np) none) F.body).out else .bad
/-- the defs below n -/
noncomputable def semN (P : List FD) : Nat → Sem1
  | 0 => fun _ _ => .bad
  | n + 1 => fun j as => if j = n then (match P[n]? with | some F => runF (semN P n) F as | none => .bad) else semN P n j as
noncomputable def sem (P : List FD) : Sem1 := fun j as => semN P (j + 1) j as
theorem semN_lt (P : List FD) : ∀ {n j : Nat}, j < n → semN P n j = sem P j
  | n + 1, j, h => by
    by_cases e : j = n
    · subst e; rfl
    · have h' : j < n := by omega
      rw [← semN_lt P h']
      funext as
      show (if j = n then _ else _) = _
      rw [if_neg e]
theorem semN_ge (P : List FD) : ∀ {n j : Nat}, n ≤ j → semN P n j = fun _ => .bad
  | 0, j, _ => rfl
  | n + 1, j, h => by
    have e : j ≠ n := by omega
    rw [← semN_ge P (show n ≤ j by omega)]
    funext as
    show (if j = n then _ else _) = _
    rw [if_neg e]
theorem semN_eq (P : List FD) (n : Nat) : semN P n = fun j => if j < n then sem P j else fun _ => .bad := by
  funext j
  split
  · rename_i h; exact semN_lt P h
  · rename_i h; exact semN_ge P (by omega)
theorem sem_eq (P : List FD) {j : Nat} {F : FD} (h : P[j]? = some F) (as : List D) : sem P j as = runF (fun i => if i < j then sem P i else fun _ => .bad) F as := by
  rw [← semN_eq]
  show (if j = j then (match P[j]? with | some F => runF (semN P j) F as | none => .bad) else _) = _
  rw [if_pos rfl, h]
end Pv

/-! Pv, part C: a frame's state: its slots, what it owns, and how both change. -/
namespace Pv
open PySem PySem.Spec PyProof.Rows L2

/-- slots and what they stand for -/
inductive Sl (T : Tb) (A H : Hp) : List OT → List (List Addr) → L2.St → Env → Prop
  | nil : Sl T A H [] [] [] []
  | no {t ts fs s σ es} : Sl T A H ts fs σ es → Sl T A H (t :: ts) ([] :: fs) (s :: σ) (none :: es)
  | is {t ts f fs v σ d es} : Own T A H t f v d → Sl T A H ts fs σ es → Sl T A H (t :: ts) (f :: fs) (some v :: σ) (some d :: es)
section
variable {T : Tb} {A A' H H' : Hp}
theorem Sl.mono (ea : Same A A') : ∀ {Γ : List OT} {fs : List (List Addr)} {σ : L2.St} {env : Env}, (∀ a ∈ fs.flatten, ∀ o, H a = some o → H' a = some o) → Sl T A H Γ fs σ env → Sl T A' H' Γ fs σ env
  | _, _, _, _, _, .nil => .nil
  | _, _, _, _, k, .no r => .no (Sl.mono ea (fun a ha => k a (by simpa using ha)) r)
  | _, _, _, _, k, .is o r => .is (o.mono ea fun a ha => k a (by simp [ha])) (Sl.mono ea (fun a ha => k a (by rw [List.flatten_cons]; exact List.mem_append_right _ ha)) r)
theorem Sl.dom : ∀ {Γ : List OT} {fs : List (List Addr)} {σ : L2.St} {env : Env}, Sl T A H Γ fs σ env → ∀ a ∈ fs.flatten, H a ≠ none
  | _, _, _, _, .nil, a, ha => by simp at ha
  | _, _, _, _, .no r, a, ha => Sl.dom r a (by simpa using ha)
  | _, _, _, _, .is o r, a, ha => by
    rw [List.flatten_cons] at ha
    exact (List.mem_append.mp ha).elim (o.dom a) (Sl.dom r a)
theorem Sl.len : ∀ {Γ : List OT} {fs : List (List Addr)} {σ : L2.St} {env : Env}, Sl T A H Γ fs σ env → σ.length = env.length ∧ fs.length = env.length ∧ Γ.length = env.length
  | _, _, _, _, .nil => ⟨rfl, rfl, rfl⟩
  | _, _, _, _, .no r => by simp [Sl.len r]
  | _, _, _, _, .is _ r => by simp [Sl.len r]
theorem Sl.get : ∀ {Γ : List OT} {fs : List (List Addr)} {σ : L2.St} {env : Env} {i : Nat} {d : D}, Sl T A H Γ fs σ env → env[i]? = some (some d) →
    ∃ v t f, σ[i]? = some (some v) ∧ Γ[i]? = some t ∧ fs[i]? = some f ∧ Own T A H t f v d
  | _, _, _, _, _, _, .nil, e => by simp at e
  | _, _, _, _, 0, _, .no _, e => by simp at e
  | _, _, _, _, 0, _, .is o _, e => by
    simp at e; subst e
    exact ⟨_, _, _, rfl, rfl, rfl, o⟩
  | _, _, _, _, i + 1, _, .no r, e => by
    obtain ⟨v, t, f, h1, h2, h3, h4⟩ := Sl.get (i := i) r (by simpa using e)
    exact ⟨v, t, f, by simpa using h1, by simpa using h2, by simpa using h3, h4⟩
  | _, _, _, _, i + 1, _, .is _ r, e => by
    obtain ⟨v, t, f, h1, h2, h3, h4⟩ := Sl.get (i := i) r (by simpa using e)
    exact ⟨v, t, f, by simpa using h1, by simpa using h2, by simpa using h3, h4⟩
theorem Sl.set {t : OT} {f : List Addr} {v : V} {d : D} (o : Own T A H t f v d) : ∀ {Γ : List OT} {fs : List (List Addr)} {σ : L2.St} {env : Env} (i : Nat), Sl T A H Γ fs σ env →
    Sl T A H (Γ.set i t) (fs.set i f) (σ.set i (some v)) (env.set i (some d))
  | _, _, _, _, _, .nil => .nil
  | _, _, _, _, 0, .no r => .is o r
  | _, _, _, _, 0, .is _ r => .is o r
  | _, _, _, _, i + 1, .no r => .no (Sl.set o i r)
  | _, _, _, _, i + 1, .is q r => .is q (Sl.set o i r)
theorem Sl.unset : ∀ {Γ : List OT} {fs : List (List Addr)} {σ : L2.St} {env : Env} (i : Nat), Sl T A H Γ fs σ env → Sl T A H (Γ.set i .fz) (fs.set i []) (σ.set i none) (env.set i none)
  | _, _, _, _, _, .nil => .nil
  | _, _, _, _, 0, .no r => .no r
  | _, _, _, _, 0, .is _ r => .no r
  | _, _, _, _, i + 1, .no r => .no (Sl.unset i r)
  | _, _, _, _, i + 1, .is q r => .is q (Sl.unset i r)
/-- a slot's value stands still from now on -/
theorem Sl.freeze (ea : Same A A') : ∀ {Γ : List OT} {fs : List (List Addr)} {σ : L2.St} {env : Env} (i : Nat), (∀ a ∈ (fs[i]?).getD [], ∀ o, H a = some o → A' a = some o) → Sl T A H Γ fs σ env → Sl T A' H (Γ.set i .fz) (fs.set i []) σ env
  | _, _, _, _, _, _, .nil => .nil
  | _, _, _, _, 0, _, .no r => .no (r.mono ea fun _ _ _ h => h)
  | _, _, _, _, 0, k, .is o r => .is (.fz (o.rep ea (by simpa using k))) (r.mono ea fun _ _ _ h => h)
  | _, _, _, _, i + 1, k, .no r => .no (Sl.freeze ea i (by simpa using k) r)
  | _, _, _, _, i + 1, k, .is q r => .is (q.mono ea fun _ _ _ h => h) (Sl.freeze ea i (by simpa using k) r)
theorem Sl.nones : ∀ n : Nat, Sl T A H (List.replicate n .fz) (List.replicate n []) (List.replicate n none) (List.replicate n none)
  | 0 => .nil
  | n + 1 => .no (Sl.nones n)
theorem Sl.start (n : Nat) {vs : List V} {ds : List D} (r : RepA T A vs ds) : Sl T A H (List.replicate (ds.length + n) .fz) (List.replicate (ds.length + n) []) (vs.map some ++ List.replicate n none) (ds.map some ++ List.replicate n none) := by
  induction vs generalizing ds with
  | nil =>
    cases r
    rw [List.length_nil, Nat.zero_add]
    exact Sl.nones n
  | cons v vs ih =>
    cases r with
    | cons r t =>
      rename_i d ds
      rw [List.length_cons, show ds.length + 1 + n = (ds.length + n) + 1 by omega]
      exact .is (.fz r) (ih t)
end

/-- lists of addresses -/
theorem flat_set {fs : List (List Addr)} {i : Nat} {f : List Addr} : ∀ {a : Addr}, a ∈ (fs.set i f).flatten → a ∈ f ∨ a ∈ fs.flatten := by
  intro a h
  obtain ⟨l, hl, ha⟩ := List.mem_flatten.mp h
  rcases List.mem_or_eq_of_mem_set hl with q | q
  · exact .inr (List.mem_flatten.mpr ⟨l, q, ha⟩)
  · exact .inl (q ▸ ha)
theorem flat_nodup : ∀ {fs : List (List Addr)} (i : Nat) {f : List Addr}, fs.flatten.Nodup → f.Nodup → (∀ a ∈ f, a ∉ fs.flatten) → (fs.set i f).flatten.Nodup
  | [], _, _, _, _, _ => by simp
  | g :: fs, 0, f, n, nf, k => by
    rw [List.set_cons_zero, List.flatten_cons]
    rw [List.flatten_cons] at n k
    refine List.nodup_append.mpr ⟨nf, (List.nodup_append.mp n).2.1, fun a ha b hb e => ?_⟩
    subst e
    exact k a ha (List.mem_append_right _ hb)
  | g :: fs, i + 1, f, n, nf, k => by
    rw [List.set_cons_succ, List.flatten_cons]
    rw [List.flatten_cons] at n k
    have n' := List.nodup_append.mp n
    refine List.nodup_append.mpr ⟨n'.1, flat_nodup i n'.2.1 nf fun a ha hb => k a ha (List.mem_append_right _ hb), fun a ha b hb e => ?_⟩
    subst e
    rcases flat_set hb with q | q
    · exact k a q (List.mem_append_left _ ha)
    · exact n'.2.2 a ha a q rfl
theorem flat_out : ∀ {fs : List (List Addr)} {i : Nat} {f : List Addr}, fs.flatten.Nodup → fs[i]? = some f → ∀ a ∈ f, a ∉ (fs.set i []).flatten
  | [], _, _, _, e => by simp at e
  | g :: fs, 0, f, n, e => by
    simp at e; subst e
    intro a ha hb
    rw [List.set_cons_zero, List.flatten_cons, List.nil_append] at hb
    rw [List.flatten_cons] at n
    exact (List.nodup_append.mp n).2.2 a ha a hb rfl
  | g :: fs, i + 1, f, n, e => by
    intro a ha hb
    rw [List.flatten_cons] at n
    have n' := List.nodup_append.mp n
    have e' : fs[i]? = some f := by simpa using e
    rw [List.set_cons_succ, List.flatten_cons] at hb
    rcases List.mem_append.mp hb with q | q
    · exact n'.2.2 a q a (List.mem_flatten.mpr ⟨f, List.mem_of_getElem? e', ha⟩) rfl
    · exact flat_out n'.2.1 e' a ha q
/-- a part of a slot's addresses is as good -/
theorem flat_sub : ∀ {fs : List (List Addr)} {i : Nat} {f g : List Addr}, fs.flatten.Nodup → fs[i]? = some f → (∀ a ∈ g, a ∈ f) → g.Nodup → (fs.set i g).flatten.Nodup := by
  intro fs i f g n e hs ng
  have h1 : (fs.set i []).flatten.Nodup := flat_nodup i n List.nodup_nil (by simp)
  have h2 : (fs.set i g) = ((fs.set i []).set i g) := by simp
  rw [h2]
  exact flat_nodup i h1 ng fun a ha => flat_out n e a (hs a ha)

/-- what a frame is given: U: what stood at its entry and is not its own to see; H0: the heap at its entry; W0: what it is lent -/
structure Cfg where
  U : Addr → Prop
  H0 : Hp
  W0 : List Addr
/-- the part that stands still -/
noncomputable abbrev Cfg.A (c : Cfg) (H : Hp) (W : List Addr) : Hp := msk H fun a => c.U a ∨ a ∈ W
/-- all that stood at the entry stands, but what was lent -/
def Cfg.Sm (c : Cfg) (H : Hp) : Prop := ∀ a o, c.H0 a = some o → a ∉ c.W0 → H a = some o
structure SO (T : Tb) (c : Cfg) (Γ : List OT) (fs : List (List Addr)) (H : Hp) (σ : L2.St) (env : Env) : Prop where
  sl : Sl T (c.A H fs.flatten) H Γ fs σ env
  nd : fs.flatten.Nodup
  fr : ∀ a ∈ fs.flatten, c.H0 a = none ∨ a ∈ c.W0
  un : ∀ a ∈ fs.flatten, ¬ c.U a
  dm : ∀ a, c.U a → H a ≠ none
  sm : c.Sm H
/-- fresh: not on the heap H -/
def New (H : Hp) (f : List Addr) : Prop := ∀ a ∈ f, H a = none

section
variable {T : Tb} {c : Cfg} {Γ : List OT} {fs : List (List Addr)} {H H' : Hp} {σ : L2.St} {env : Env}
theorem Same.some {H H' : Hp} (s : Same H H') {a : Addr} (h : H a ≠ none) : H' a ≠ none := by
  cases e : H a with
  | none => exact absurd e h
  | some o => rw [s a o e]; simp
theorem SO.dom (so : SO T c Γ fs H σ env) : ∀ a ∈ fs.flatten, H a ≠ none := so.sl.dom
theorem Cfg.A_mono (s : Same H H') {W : List Addr} : Same (c.A H W) (c.A H' W) := msk_mono s fun _ h => .inl h
/-- the part that stands still grows with the heap -/
theorem Cfg.A_grow (s : Same H H') {W W' : List Addr} (h : ∀ a ∈ W', a ∈ W ∨ H a = none) : Same (c.A H W) (c.A H' W') := msk_mono s fun a q => by
  rcases q with q | q
  · exact .inl (.inl q)
  · exact (h a q).elim (fun z => .inl (.inr z)) .inr
theorem SO.mono (so : SO T c Γ fs H σ env) (s : Same H H') : SO T c Γ fs H' σ env where
  sl := so.sl.mono (Cfg.A_mono s) fun a _ o h => s a o h
  nd := so.nd
  fr := so.fr
  un := so.un
  dm := fun a h => Same.some s (so.dm a h)
  sm := fun a o h k => s a o (so.sm a o h k)
/-- nothing of f is hidden or owned -/
theorem SO.new (so : SO T c Γ fs H σ env) {f : List Addr} (n : New H f) : (∀ a ∈ f, ¬ c.U a) ∧ (∀ a ∈ f, a ∉ fs.flatten) ∧ ∀ a ∈ f, a ∉ c.W0 → c.H0 a = none :=
  ⟨fun a ha u => so.dm a u (n a ha), fun a ha w => so.dom a w (n a ha), fun a ha k => by
    cases e : c.H0 a with
    | none => rfl
    | some o => have := so.sm a o e k; rw [n a ha] at this; cases this⟩
/-- a slot is set to a value with what it owns: made since Hb -/
theorem SO.set {Hb : Hp} (so : SO T c Γ fs Hb σ env) (s : Same Hb H) (i : Nat) {t : OT} {f : List Addr} {v : V} {d : D} (nf : f.Nodup) (n : New Hb f)
    (o : Own T (c.A H (fs.flatten ++ f)) H t f v d) : SO T c (Γ.set i t) (fs.set i f) H (σ.set i (some v)) (env.set i (some d)) ∧ Same (c.A Hb fs.flatten) (c.A H (fs.set i f).flatten) := by
  obtain ⟨n1, n2, n3⟩ := so.new n
  have e1 : Same (c.A H (fs.flatten ++ f)) (c.A H (fs.set i f).flatten) := msk_mono (fun _ _ h => h) fun a q => by
    rcases q with q | q
    · exact .inl (.inl q)
    · exact .inl (.inr ((flat_set q).elim (fun z => List.mem_append_right _ z) fun z => List.mem_append_left _ z))
  have e2 : Same (c.A Hb fs.flatten) (c.A H (fs.set i f).flatten) := Cfg.A_grow s fun a q => (flat_set q).elim (fun z => .inr (n a z)) .inl
  refine ⟨⟨Sl.set (o.mono e1 fun _ _ _ h => h) i (so.sl.mono e2 fun a _ ob h => s a ob h), flat_nodup i so.nd nf n2, fun a ha => (flat_set ha).elim (fun z => ?_) (so.fr a), fun a ha => (flat_set ha).elim (n1 a) (so.un a), fun a h => Same.some s (so.dm a h), fun a ob h k => s a ob (so.sm a ob h k)⟩, e2⟩
  by_cases k : a ∈ c.W0
  · exact .inr k
  · exact .inl (n3 a z k)
/-- .. to what stands still -/
theorem SO.setF {Hb : Hp} (so : SO T c Γ fs Hb σ env) (s : Same Hb H) (i : Nat) {v : V} {d : D} (r : Rep T (c.A H fs.flatten) v d) :
    SO T c (Γ.set i .fz) (fs.set i []) H (σ.set i (some v)) (env.set i (some d)) ∧ Same (c.A Hb fs.flatten) (c.A H (fs.set i []).flatten) :=
  so.set s i List.nodup_nil (fun a h => by cases h) (.fz (by rw [List.append_nil]; exact r))
/-- a slot's value stands still from now on -/
theorem SO.freeze (so : SO T c Γ fs H σ env) (i : Nat) : SO T c (Γ.set i .fz) (fs.set i []) H σ env ∧ Same (c.A H fs.flatten) (c.A H (fs.set i []).flatten) := by
  have e2 : Same (c.A H fs.flatten) (c.A H (fs.set i []).flatten) := Cfg.A_grow (fun _ _ h => h) fun a q => (flat_set q).elim (fun z => by cases z) .inl
  refine ⟨⟨so.sl.freeze e2 i fun a ha o h => msk_some.mpr ⟨fun q => ?_, h⟩, flat_nodup i so.nd List.nodup_nil (by simp), fun a ha => (flat_set ha).elim (fun z => by cases z) (so.fr a), fun a ha => (flat_set ha).elim (fun z => by cases z) (so.un a), so.dm, so.sm⟩, e2⟩
  cases e : fs[i]? with
  | none => rw [e] at ha; cases ha
  | some f =>
    rw [e] at ha
    have hm : a ∈ fs.flatten := List.mem_flatten.mpr ⟨f, List.mem_of_getElem? e, ha⟩
    rcases q with q | q
    · exact so.un a hm q
    · exact flat_out so.nd e a ha q
/-- a slot is forgotten -/
theorem SO.unset (so : SO T c Γ fs H σ env) (i : Nat) : SO T c (Γ.set i .fz) (fs.set i []) H (σ.set i none) (env.set i none) ∧ Same (c.A H fs.flatten) (c.A H (fs.set i []).flatten) := by
  have e2 : Same (c.A H fs.flatten) (c.A H (fs.set i []).flatten) := Cfg.A_grow (fun _ _ h => h) fun a q => (flat_set q).elim (fun z => by cases z) .inl
  exact ⟨⟨(so.sl.mono e2 fun _ _ _ h => h).unset i, flat_nodup i so.nd List.nodup_nil (by simp), fun a ha => (flat_set ha).elim (fun z => by cases z) (so.fr a), fun a ha => (flat_set ha).elim (fun z => by cases z) (so.un a), so.dm, so.sm⟩, e2⟩
/-- a slot of one's own is changed in place: the object at p (in the slot's own part) becomes o; the rest of the heap stands -/
theorem SO.write (so : SO T c Γ fs H σ env) {i : Nat} {t : OT} {f g : List Addr} {v : V} {d : D} {p : Addr} {ob : HO} (hf : fs[i]? = some f) (hp : p ∈ f) (hg : ∀ a ∈ g, a ∈ f) (ng : g.Nodup)
    (hσ : σ[i]? = some (some v)) (hΓ : Γ[i]? = some t)
    (o : Own T (c.A (upd H p ob) (fs.set i g).flatten) (upd H p ob) t g v d) : SO T c Γ (fs.set i g) (upd H p ob) σ (env.set i (some d)) ∧ Same (c.A H fs.flatten) (c.A (upd H p ob) (fs.set i g).flatten) := by
  have hm : ∀ a ∈ f, a ∈ fs.flatten := fun a ha => List.mem_flatten.mpr ⟨f, List.mem_of_getElem? hf, ha⟩
  have e2 : Same (c.A H fs.flatten) (c.A (upd H p ob) (fs.set i g).flatten) := fun a q h => by
    obtain ⟨h1, h2⟩ := msk_some.mp h
    refine msk_some.mpr ⟨fun z => h1 (z.elim .inl fun z => .inr ((flat_set z).elim (fun k => hm a (hg a k)) id)), ?_⟩
    have ne : a ≠ p := fun e => h1 (.inr (by rw [e]; exact hm p hp))
    rw [upd_ne ne]
    exact h2
  have sl1 : Sl T (c.A (upd H p ob) (fs.set i g).flatten) (upd H p ob) (Γ.set i .fz) (fs.set i []) (σ.set i none) (env.set i none) := by
    refine (so.sl.unset i).mono e2 fun a ha q h => ?_
    rw [upd_ne]
    · exact h
    · intro e
      subst e
      exact flat_out so.nd hf a hp ha
  have sl2 := sl1.set o i
  rw [List.set_set, List.set_set, List.set_set, List.set_set] at sl2
  rw [show Γ.set i t = Γ from List.ext_getElem? fun j => by
    by_cases e : i = j
    · subst e
      rw [List.getElem?_set_self (List.getElem?_eq_some_iff.mp hΓ).1, hΓ]
    · rw [List.getElem?_set_ne e], show σ.set i (some v) = σ from List.ext_getElem? fun j => by
    by_cases e : i = j
    · subst e
      rw [List.getElem?_set_self (List.getElem?_eq_some_iff.mp hσ).1, hσ]
    · rw [List.getElem?_set_ne e]] at sl2
  refine ⟨⟨sl2, flat_sub so.nd hf hg ng, fun a ha => so.fr a ((flat_set ha).elim (fun k => hm a (hg a k)) id), fun a ha => so.un a ((flat_set ha).elim (fun k => hm a (hg a k)) id), fun a h => ?_, fun a q h k => ?_⟩, e2⟩
  · by_cases e : a = p
    · subst e; rw [upd_same]; simp
    · rw [upd_ne e]; exact so.dm a h
  · rw [upd_ne]
    · exact so.sm a q h k
    · intro e
      subst e
      rcases so.fr a (hm a hp) with z | z
      · rw [z] at h; cases h
      · exact k z
end
end Pv

/-! Pv, part Z: zip of two sequences, each a list or a tuple. -/
namespace Pv
open PySem PySem.Spec PyProof.Rows L2

/-- a list or a tuple that is read -/
def Sq (K : PySem.W.Frag) (H : Hp) (a : Addr) (xs : List V) : Prop := SqL K H a xs ∨ SqT K H a xs
theorem Sq.mono {K : PySem.W.Frag} {H H' : Hp} {a : Addr} {xs : List V} (e : Same H H') (h : Sq K H a xs) : Sq K H' a xs := h.imp e.seq (seqT e)
/-- its kind: a tuple, or a list -/
def SqK (k : Bool) (K : PySem.W.Frag) (H : Hp) (a : Addr) (xs : List V) : Prop := if k = true then SqT K H a xs else SqL K H a xs
def IsS (k : Bool) (h : Heap) (a : Addr) (items : Array Value) : Prop := if k = true then h.IsTuple a items else h.IsList a items
def IsIt (k : Bool) (h : Heap) (it a : Addr) (i : Nat) : Prop := if k = true then h.IsTupleIter it a i else h.IsListIter it a i
section
variable {X : Cx} {pins : List (Addr × Obj)} {σ : L2.St} {H : Hp} {s : Shared} {a : Addr} {xs : List V} {k : Bool}
theorem sqk_items (I : Inv X pins σ H s) (h : SqK k X.K H a xs) : ∃ its : List Value, Vals xs its ∧ IsS k s.heap a its.toArray := by
  cases k with
  | true =>
    obtain ⟨its, r, p, _⟩ := I.tuple (show SqT X.K H a xs from h)
    exact ⟨its, r, show s.heap.IsTuple a its.toArray from p⟩
  | false =>
    obtain ⟨its, r, p, _⟩ := I.list (show SqL X.K H a xs from h)
    exact ⟨its, r, show s.heap.IsList a its.toArray from p.isList⟩
theorem draws_k {prog : Program} {w : World} {A : Around} (hh : A.handled = none) (it : Addr) (hne : a ≠ it) (items : Array Value) :
    Draws prog w A it [it, a] items.size (fun i v => items[i]? = some v) (fun i h => IsIt k h it a i ∧ IsS k h a items) := by
  cases k with
  | true => exact Draws.tuple hh it a hne items
  | false => exact Draws.list hh it a hne items
theorem isIt_obj {h : Heap} {it : Addr} {i : Nat} (st : IsIt k h it a i) : ∃ o, h.get? it = some o ∧ ∀ v, o.data ≠ .cell v := by
  cases k with
  | true =>
    obtain ⟨o, e, _, d⟩ := (show h.IsTupleIter it a i from st)
    exact ⟨o, e, fun v q => by rw [d] at q; cases q⟩
  | false =>
    obtain ⟨o, e, _, d⟩ := (show h.IsListIter it a i from st)
    exact ⟨o, e, fun v q => by rw [d] at q; cases q⟩
theorem isIt_keep {h h' : Heap} {it : Addr} {i : Nat} (st : IsIt k h it a i) (kp : ∀ o, h.get? it = some o → h'.get? it = some o) : IsIt k h' it a i := by
  cases k with
  | true => exact (show h.IsTupleIter it a i from st).at kp
  | false => exact (show h.IsListIter it a i from st).at kp
end

/-- two sequences that stand, the items in new pairs -/
def ItzQ (K : PySem.W.Frag) (k l : Bool) (a b : Addr) (xs ys : List V) : It :=
  ⟨fun i H => SqK k K H a xs ∧ SqK l K H b ys ∧ i < xs.length ∧ i < ys.length,
   fun i H v H' => ∃ T x y, v = .ref T ∧ H T = none ∧ H' = upd H T (.tup [x, y]) ∧ xs[i]? = some x ∧ ys[i]? = some y,
   fun i H => SqK k K H a xs ∧ SqK l K H b ys ∧ (i = xs.length ∨ i = ys.length) ∧ i ≤ xs.length ∧ i ≤ ys.length⟩
theorem turn_zipQ {P : Program} {w : World} {K : PySem.W.Frag} {elts : List Expr} {kk : Nat} {tpos : Pos} {k l : Bool} {a b z TI TO i1 i2 : Addr} {xs ys : List V} (S : ZipSep2 z TI TO i1 i2 [i1, a] [i2, b]) (ha : a ≠ i1) (hb : b ≠ i2) :
    Turn P w K (.Tuple elts kk tpos) (ItzQ K k l a b xs ys) [z, TI, TO, i1, i2] z (fun i h => IsZip h z TI TO .none ∧ IsTupOf2 h TI (.ref i1) (.ref i2) ∧ (∃ x y, IsTupOf2 h TO x y) ∧ IsIt k h i1 a i ∧ IsIt l h i2 b i) where
  mem := by simp
  obj := fun i h st c hc => by
    obtain ⟨hz, hTI, ⟨x, y, hTO⟩, h1, h2⟩ := st
    have e' : c = z ∨ c = TI ∨ c = TO ∨ c = i1 ∨ c = i2 := by simpa using hc
    rcases e' with rfl | rfl | rfl | rfl | rfl
    · exact ⟨_, hz, fun v q => nomatch q⟩
    · exact ⟨_, hTI, fun v q => nomatch q⟩
    · exact ⟨_, hTO, fun v q => nomatch q⟩
    · exact isIt_obj h1
    · exact isIt_obj h2
  keep := fun i h h' st kp => by
    obtain ⟨hz, hTI, ⟨x, y, hTO⟩, h1, h2⟩ := st
    exact ⟨kp z (by simp) _ hz, kp TI (by simp) _ hTI, ⟨x, y, kp TO (by simp) _ hTO⟩, isIt_keep h1 fun o q => kp i1 (by simp) o q, isIt_keep h2 fun o q => kp i2 (by simp) o q⟩
  item := by
    intro X hP hw hK hc i pins s σ H E I hf st hg
    subst hP hw hK
    obtain ⟨hz, hTI, ⟨x0, y0, hTO⟩, h1, h2⟩ := st
    obtain ⟨qx, qy, lx, ly⟩ := hg
    obtain ⟨its, rv, p⟩ := sqk_items I qx
    obtain ⟨its2, rv2, p2⟩ := sqk_items I qy
    have l1 := rv.length
    have l2 := rv2.length
    have hd : X.A.in1.handled = none := I.ok.hd hc
    have zl : z < s.heap.objs.size := Heap.lt_size hz
    refine wpAny_pyNext_zipD2_item S (draws_k (k := k) hd i1 ha its.toArray) (draws_k (k := l) hd i2 hb its2.toArray) hz hTI hTO ⟨h1, p⟩ ⟨h2, p2⟩ (by simp; omega) (by simp; omega) fun u u2 h' tk eu eu2 z' TO' st1' st2' hT hsz hk => ?_
    refine ⟨_, rfl, wpAny_letOwnedTupleGo_zip (s := { s with heap := h', toks := tk }) z' fun h'' z'' sb => ?_⟩
    have hT2 : h''.get? s.heap.objs.size = some { cls := .type "tuple", data := .seq #[u, u2] } := (sb.2 _ (Nat.ne_of_gt zl)).trans hT
    have ex : xs[i]? = some xs[i] := List.getElem?_eq_getElem lx
    have ey : ys[i]? = some ys[i] := List.getElem?_eq_getElem ly
    obtain ⟨u', hu', ru⟩ := rv.get ex
    obtain ⟨v', hv', rv'⟩ := rv2.get ey
    have e1 : u' = u := by
      have : its[i]? = some u := by simpa using eu
      rw [hu'] at this
      exact Option.some.inj this
    have e2 : v' = u2 := by
      have : its2[i]? = some u2 := by simpa using eu2
      rw [hv'] at this
      exact Option.some.inj this
    subst e1 e2
    have new : ObjOk X.prog X.w (upd H s.heap.objs.size (.tup [xs[i], ys[i]])) h'' s.heap.objs.size (.tup [xs[i], ys[i]]) :=
      ⟨by show 2 ≤ sizeLine; decide, [u', v'], .cons ru (.cons rv' .nil), ⟨_, hT2, rfl, _, rfl⟩⟩
    have kept : ∀ c o, c ∉ [z, TI, TO, i1, i2] → s.heap.get? c = some o → h''.get? c = some o := fun c o hb q => by
      have n1 : c ≠ z := fun e => hb (by simp [e])
      have n2 : c ≠ TO := fun e => hb (by simp [e])
      have n3 : c ≠ i1 := fun e => hb (by simp [e])
      have n4 : c ≠ i2 := fun e => hb (by simp [e])
      exact (sb.2 c n1).trans (hk c o n1 n2 n3 n4 q)
    have I1 : Inv X pins σ (upd H s.heap.objs.size (.tup [xs[i], ys[i]])) { s with heap := h'', toks := tk } := I.turnedNew (t' := tk) (ch := [z, TI, TO, i1, i2]) (fun c o hb q => kept c o hb q) hf (Nat.le_refl _) new
    refine ⟨.ref s.heap.objs.size, _, I1, rfl, ⟨_, xs[i], ys[i], rfl, I.hok.fresh (Nat.le_refl _), rfl, ex, ey⟩, ⟨z'', ?_, ⟨u', v', ?_⟩, ?_, ?_⟩, fun c hcm => ?_⟩
    · exact (sb.2 _ S.TIz).trans (hk _ _ S.TIz S.TITO S.TIi1 S.TIi2 hTI)
    · exact (sb.2 _ S.TOz).trans TO'
    · exact isIt_keep st1'.1 fun o q => (sb.2 _ (Ne.symm S.zi1)).trans q
    · exact isIt_keep st2'.1 fun o q => (sb.2 _ (Ne.symm S.zi2)).trans q
    · have hlt : c < s.heap.objs.size := by
        have e' : c = z ∨ c = TI ∨ c = TO ∨ c = i1 ∨ c = i2 := by simpa using hcm
        rcases e' with q | q | q | q | q
        · rw [q]; exact zl
        · rw [q]; exact Heap.lt_size hTI
        · rw [q]; exact Heap.lt_size hTO
        · rw [q]; obtain ⟨_, e1, _⟩ := isIt_obj h1; exact Heap.lt_size e1
        · rw [q]; obtain ⟨_, e2, _⟩ := isIt_obj h2; exact Heap.lt_size e2
      rw [upd_ne (Nat.ne_of_lt hlt)]
      exact (hf c hcm).1
  done := by
    intro X hP hw hK hc i pins s σ H E I hf st hg
    subst hP hw hK
    obtain ⟨hz, hTI, ⟨x0, y0, hTO⟩, h1, h2⟩ := st
    obtain ⟨qx, qy, hend, lx, ly⟩ := hg
    obtain ⟨its, rv, p⟩ := sqk_items I qx
    obtain ⟨its2, rv2, p2⟩ := sqk_items I qy
    have l1 := rv.length
    have l2 := rv2.length
    have hd : X.A.in1.handled = none := I.ok.hd hc
    refine wpAny_pyNext_zipD2_end S (draws_k (k := k) hd i1 ha its.toArray) (draws_k (k := l) hd i2 hb its2.toArray) hz hTI hTO ⟨h1, p⟩ ⟨h2, p2⟩ (by simp; omega) (by simp; omega) (by simp; omega) fun h' tk hk => ⟨rfl, ?_⟩
    exact I.turnedL (t' := tk) (ch := [z, TI, TO, i1, i2]) (fun c o hb q => hk c o (fun e => hb (by simp [e])) (fun e => hb (by simp [e])) (fun e => hb (by simp [e])) (fun e => hb (by simp [e])) q) hf
  self := fun A i s Q E st h => wpAny_pyIter_zip st.1 h

/-- iter of such a sequence begins -/
theorem begins_k (k : Bool) (a : Addr) (items : Array Value) : ∃ o : Obj, Begins (.ref a) o (fun h => IsS k h a items) ∧ ∀ (h : Heap) (it : Addr), h.get? it = some o → IsIt k h it a 0 := by
  cases k with
  | true => exact ⟨_, begins_tuple a items, fun h it e => show h.IsTupleIter it a 0 from ⟨_, e, rfl, rfl⟩⟩
  | false => exact ⟨_, begins_list a items, fun h it e => show h.IsListIter it a 0 from ⟨_, e, rfl, rfl⟩⟩
def iZipQ (K : PySem.W.Frag) (ta : TA) : TI := fun σ H R => ta σ H fun vs H1 => ∃ k l a b xs ys, vs = [.ref a, .ref b] ∧ SqK k K H1 a xs ∧ SqK l K H1 b ys ∧ R (ItzQ K k l a b xs ys) H1
theorem pi_zipQ {X : Cx} {e e2 : Expr} {ta : TA} {p pos tpos : Pos} {elts : List Expr} {kk : Nat} (hg : Gl X "zip") (hm : X.mg "zip" = none) (ha : PA X [e, e2] ta)
    (hs : starEach [e, e2] X.env = (false, eval e X.env) :: starEach [e2] X.env) (hpl : (backTo pos (starEach [e2] X.env)).any (·.1) = false) :
    PI X (.Tuple elts kk tpos) (.Call (.Name "zip" p) [e, e2] [] pos) (iZipQ X.K ta) := by
  refine ⟨fun pins s σ H R I h => ?_⟩
  refine Call_ (ld_blt I hg hm PyProof.Rows.boot_zip (PyProof.Rows.callWith_type1 (thn (ha.run pos pins s σ H _ I h) fun us s1 ⟨vs, H1, I1, r1, q1⟩ => ?_) hs hpl))
  obtain ⟨k, l, a, b, xs, ys, ex, qx, qy, q⟩ := q1
  subst ex
  obtain ⟨u, u', rfl, ru, ru'⟩ := vals2 r1
  cases ru
  cases ru'
  obtain ⟨its, rv, p1⟩ := sqk_items I1 qx
  obtain ⟨its2, rv2, p2⟩ := sqk_items I1 qy
  obtain ⟨o1, B1, g1⟩ := begins_k k a its.toArray
  obtain ⟨o2, B2, g2⟩ := begins_k l b its2.toArray
  have la : a < s1.heap.objs.size := by
    cases k with
    | true => obtain ⟨o, e, _⟩ := (show s1.heap.IsTuple a its.toArray from p1); exact Heap.lt_size e
    | false => obtain ⟨o, e, _⟩ := (show s1.heap.IsList a its.toArray from p1); exact Heap.lt_size e
  have lb : b < s1.heap.objs.size := by
    cases l with
    | true => obtain ⟨o, e, _⟩ := (show s1.heap.IsTuple b its2.toArray from p2); exact Heap.lt_size e
    | false => obtain ⟨o, e, _⟩ := (show s1.heap.IsList b its2.toArray from p2); exact Heap.lt_size e
  refine zip_begins2 B1 B2 p1 p2 fun h' hz hTI hTO h1 h2 hsz hk => wpAny_pyIter_zip hz ?_
  have I2 : Inv X pins σ H1 { s1 with heap := h' } := I1.kept (t' := s1.toks) hk
  have S := zip_sep2 (N := s1.heap.objs.size) (fp1 := [a]) (fp2 := [b]) (fun c hc => by simp at hc; rw [hc]; exact la) (fun c hc => by simp at hc; rw [hc]; exact lb)
  have na : a ≠ s1.heap.objs.size := Nat.ne_of_lt la
  have nb : b ≠ s1.heap.objs.size + 1 := Nat.ne_of_lt (Nat.lt_succ_of_lt lb)
  refine ⟨s1.heap.objs.size + 4, [s1.heap.objs.size + 4, s1.heap.objs.size + 2, s1.heap.objs.size + 3, s1.heap.objs.size, s1.heap.objs.size + 1], _, _, H1, rfl, I2, turn_zipQ S na nb, ⟨hz, hTI, ⟨_, _, hTO⟩, g1 _ _ h1, g2 _ _ h2⟩, fun c hcm => ?_, q⟩
  have hle : s1.heap.objs.size ≤ c := by
    have e' : c = s1.heap.objs.size + 4 ∨ c = s1.heap.objs.size + 2 ∨ c = s1.heap.objs.size + 3 ∨ c = s1.heap.objs.size ∨ c = s1.heap.objs.size + 1 := by simpa using hcm
    rcases e' with z | z | z | z | z
    · rw [z]; exact Nat.le_add_right _ _
    · rw [z]; exact Nat.le_add_right _ _
    · rw [z]; exact Nat.le_add_right _ _
    · rw [z]; exact Nat.le_refl _
    · rw [z]; exact Nat.le_add_right _ _
  exact I1.fpOk hle (I1.hok.fresh hle)
theorem walk_zipQ {K : PySem.W.Frag} {k l : Bool} {a b : Addr} {xs ys : List V} {n : Nat} (hn : n = min xs.length ys.length) :
    Walk (ItzQ K k l a b xs ys) n (fun H => SqK k K H a xs ∧ SqK l K H b ys) (YPair (fun i => xs[i]?) (fun i => ys[i]?)) := by
  subst hn
  refine ⟨fun i _ hi q => ⟨q.1, q.2, by omega, by omega⟩, fun _ q => ⟨q.1, q.2, by omega, by omega, by omega⟩, fun i H v H' _ q y => ?_⟩
  obtain ⟨T, x, y, h1, h2, h3, h4, h5⟩ := y
  exact ⟨T, x, y, h1, h2, h3, h4, h5⟩
end Pv

/-! Pv, part D: what an expression's reading is; when an expression of the text is one of the small language. -/
namespace Pv
open PySem PySem.Spec PyProof.Rows L2

/-! ### readings -/
def Pst (EX : Str → List D → Prop) (K : D → Prop) : R → Prop
  | .ok d => K d
  | .ex k ds => EX k ds
  | .bad => False
section
variable {EX : Str → List D → Prop} {K K' : D → Prop}
theorem Pst.bind {r : R} {f : D → R} (h : Pst EX K (r.bind f)) : Pst EX (fun x => Pst EX K (f x)) r := by
  cases r <;> exact h
theorem Pst.imp {r : R} (h : Pst EX K r) (i : ∀ d, K d → K' d) : Pst EX K' r := by
  cases r with
  | ok d => exact i d h
  | ex k ds => exact h
  | bad => exact h
theorem Pst.arg {r : R} {f : List D → R} (h : Pst EX K (argD r f)) : Pst EX (fun d => ∃ ds, d = .tup ds ∧ Pst EX K (f ds)) r := by
  cases r with
  | ok d =>
    cases d with
    | tup ds => exact ⟨ds, rfl, h⟩
    | _ => exact h.elim
  | ex k ds => exact h
  | bad => exact h
theorem Pst.cons {a b : R} (h : Pst EX K (consD a b)) : Pst EX (fun x => Pst EX (fun d => ∃ ds, d = .tup ds ∧ K (.tup (x :: ds))) b) a := by
  cases a with
  | ok x =>
    cases b with
    | ok d =>
      cases d with
      | tup ds => exact ⟨ds, rfl, h⟩
      | _ => exact h.elim
    | ex k ds => exact h
    | bad => exact h
  | ex k ds => cases b <;> exact h
  | bad => cases b <;> exact h
end

/-- what a value is known to be, made since H -/
def RO (T : Tb) (c : Cfg) (t : OT) (W : List Addr) (H H' : Hp) (v : V) (d : D) : Prop := ∃ f : List Addr, f.Nodup ∧ New H f ∧ Own T (c.A H' (W ++ f)) H' t f v d
def ROL (T : Tb) (c : Cfg) (ts : List OT) (W : List Addr) (H H' : Hp) (vs : List V) (ds : List D) : Prop := ∃ f : List Addr, f.Nodup ∧ New H f ∧ OwnL T (c.A H' (W ++ f)) H' ts f vs ds
/-- the text's own facts that an expression leans on -/
structure Ct where
  T : Tb
  S : Sem1
  xc : Cfg
  EX : Str → List D → Prop
def rE (C : Ct) (Γ : List OT) (t : OT) (e : IE) : TE := fun σ H Q => ∃ c fs env, SO C.T c Γ fs H σ env ∧ C.xc.Sm H ∧
  Pst C.EX (fun d => ∀ v H', Same H H' → RO C.T c t fs.flatten H H' v d → Q v H') (ev C.S env e)
def rA (C : Ct) (Γ : List OT) (ts : List OT) (e : IE) : TA := fun σ H Q => ∃ c fs env, SO C.T c Γ fs H σ env ∧ C.xc.Sm H ∧
  Pst C.EX (fun d => ∀ ds vs H', d = .tup ds → Same H H' → ROL C.T c ts fs.flatten H H' vs ds → Q vs H') (ev C.S env e)
def rT (C : Ct) (Γ : List OT) (e : IE) : TT := fun σ H Q => ∃ c fs env, SO C.T c Γ fs H σ env ∧ C.xc.Sm H ∧
  Pst C.EX (fun d => ∃ b, d = .bl b ∧ ∀ H', Same H H' → Q b H') (ev C.S env e)

theorem Cfg.Sm.mono {c : Cfg} {H H' : Hp} (h : c.Sm H) (s : Same H H') : c.Sm H' := fun a o e k => s a o (h a o e k)

section
variable {T : Tb} {c : Cfg} {Γ : List OT} {fs : List (List Addr)} {H H1 H2 : Hp} {σ : L2.St} {env : Env} {t : OT} {v : V} {d : D} {W : List Addr}
theorem RO.later (r : RO T c t fs.flatten H H1 v d) (so : SO T c Γ fs H1 σ env) (s : Same H1 H2) : RO T c t fs.flatten H H2 v d := by
  obtain ⟨f, nf, nw, o⟩ := r
  exact ⟨f, nf, nw, o.mono (Cfg.A_mono s) fun a _ ob h => s a ob h⟩
theorem RO.same (r : RO T c t W H1 H2 v d) (s : Same H H1) : RO T c t W H H2 v d := by
  obtain ⟨f, nf, nw, o⟩ := r
  exact ⟨f, nf, fun a h => s.free (nw a h), o⟩
/-- it may stand still -/
theorem RO.rep (r : RO T c t fs.flatten H H1 v d) (so : SO T c Γ fs H σ env) : Rep T (c.A H1 fs.flatten) v d := by
  obtain ⟨f, nf, nw, o⟩ := r
  obtain ⟨n1, n2, _⟩ := so.new nw
  refine o.rep (msk_mono (fun _ _ h => h) fun a q => q.elim (fun z => .inl (.inl z)) fun z => .inl (.inr (List.mem_append_left _ z))) fun a ha ob h => msk_some.mpr ⟨fun q => q.elim (n1 a ha) (n2 a ha), h⟩
theorem ROL.rep {ts : List OT} {vs : List V} {ds : List D} (r : ROL T c ts fs.flatten H H1 vs ds) (so : SO T c Γ fs H σ env) : RepA T (c.A H1 fs.flatten) vs ds := by
  obtain ⟨f, nf, nw, o⟩ := r
  obtain ⟨n1, n2, _⟩ := so.new nw
  refine o.rep (msk_mono (fun _ _ h => h) fun a q => q.elim (fun z => .inl (.inl z)) fun z => .inl (.inr (List.mem_append_left _ z))) fun a ha ob h => msk_some.mpr ⟨fun q => q.elim (n1 a ha) (n2 a ha), h⟩
theorem RO.of_rep (r : Rep T (c.A H1 W) v d) : RO T c .fz W H H1 v d := ⟨[], List.nodup_nil, (fun a h => by cases h), .fz (by rw [List.append_nil]; exact r)⟩
theorem RO.fz (r : RO T c t fs.flatten H H1 v d) (so : SO T c Γ fs H σ env) : RO T c .fz fs.flatten H H1 v d := .of_rep (r.rep so)
theorem RO.int {i : Int} (r : RO T c t W H H1 v (.int i)) : v = .int i := by
  obtain ⟨f, _, _, o⟩ := r
  cases o with
  | fz r => cases r; rfl
theorem RO.bl {i : Bool} (r : RO T c t W H H1 v (.bl i)) : v = .bl i := by
  obtain ⟨f, _, _, o⟩ := r
  cases o with
  | fz r => cases r; rfl
theorem RO.str {i : Str} (r : RO T c t W H H1 v (.str i)) : v = .str i := by
  obtain ⟨f, _, _, o⟩ := r
  cases o with
  | fz r => cases r; rfl
theorem RO.mkInt {i : Int} : RO T c .fz W H H1 (.int i) (.int i) := .of_rep (.int i)
theorem RO.mkBl {i : Bool} : RO T c .fz W H H1 (.bl i) (.bl i) := .of_rep (.bl i)
/-- a new list of what stands still -/
theorem RO.mkL {p : Addr} {vs : List V} {ds : List D} (so : SO T c Γ fs H1 σ env) (s : Same H H1) (np : H1 p = none) (r : RepA T (c.A H1 fs.flatten) vs ds) :
    RO T c (.ol .fz) fs.flatten H (upd H1 p (.lst vs)) (.ref p) (.lst ds) := by
  refine ⟨[p], by simp, fun a h => by rw [List.mem_singleton] at h; rw [h]; exact s.free np, ?_⟩
  have e : [p] = p :: [] := rfl
  refine .ol upd_same (.of_rep (r.mono fun a o h => ?_))
  obtain ⟨h1, h2⟩ := msk_some.mp h
  refine msk_some.mpr ⟨fun q => ?_, by rw [upd_ne (ne_of_none h2 np)]; exact h2⟩
  rcases q with q | q
  · exact h1 (.inl q)
  · rcases List.mem_append.mp q with q | q
    · exact h1 (.inr q)
    · rw [List.mem_singleton] at q
      rw [q, np] at h2
      cases h2
theorem RO.mkT {p : Addr} {vs : List V} {ds : List D} (so : SO T c Γ fs H1 σ env) (np : H1 p = none) (r : RepA T (c.A H1 fs.flatten) vs ds) :
    RO T c .fz fs.flatten H (upd H1 p (.tup vs)) (.ref p) (.tup ds) := by
  refine .of_rep (.tup (.of (msk_some.mpr ⟨fun q => ?_, upd_same⟩)) (r.mono fun a o h => ?_))
  · exact q.elim (fun z => so.dm p z np) fun z => so.dom p z np
  · obtain ⟨h1, h2⟩ := msk_some.mp h
    exact msk_some.mpr ⟨h1, by rw [upd_ne (ne_of_none h2 np)]; exact h2⟩
/-- a new tuple of what is owned -/
theorem RO.mkO {p : Addr} {ts : List OT} {vs : List V} {ds : List D} (so : SO T c Γ fs H σ env) (s : Same H H1) (np : H1 p = none) (r : ROL T c ts fs.flatten H H1 vs ds) :
    RO T c (.ot ts) fs.flatten H (upd H1 p (.tup vs)) (.ref p) (.tup ds) := by
  obtain ⟨f, nf, nw, o⟩ := r
  have hpf : p ∉ f := fun h => o.dom p h np
  refine ⟨p :: f, List.nodup_cons.mpr ⟨hpf, nf⟩, fun a h => (List.mem_cons.mp h).elim (fun e => by rw [e]; exact s.free np) (nw a), .ot upd_same (o.mono (fun a ob h => ?_) fun a ha ob h => ?_)⟩
  · obtain ⟨h1, h2⟩ := msk_some.mp h
    refine msk_some.mpr ⟨fun q => ?_, by rw [upd_ne (ne_of_none h2 np)]; exact h2⟩
    rcases q with q | q
    · exact h1 (.inl q)
    · rcases List.mem_append.mp q with q | q
      · exact h1 (.inr (List.mem_append_left _ q))
      · rcases List.mem_cons.mp q with q | q
        · rw [q, np] at h2; cases h2
        · exact h1 (.inr (List.mem_append_right _ q))
  · rw [upd_ne (ne_of_none h np)]; exact h
theorem same_upd {p : Addr} {o : HO} (h : H p = none) : Same H (upd H p o) := fun b x e => by
  rw [upd_ne (ne_of_none e h)]
  exact e
end

/-! ### the text's tables, and the look -/
structure Gt where
  fn : List Str
  ps : List (List Str)
  rt : List OT
  bl : List Str
  gl : List (Str × D)
  gc : Bool
  lv : Nat
def visB (sc : Scope) (x : Str) : Bool := match sc.names.lookup x with
  | some .local => true | some .cell => true | some .free => true | _ => false
def locB (sc : Scope) (x : Str) : Bool := match sc.names.lookup x with
  | some .local => true | _ => false
def glB (sc : Scope) (x : Str) : Bool := match sc.names.lookup x with
  | some .globalImplicit => true | _ => false
def okN (x : Str) : Bool := !(x == ("__debug__" : Str)) && !(x == ("__classdict__" : Str)) && !decide (x = "__name__")
theorem visB_of {sc : Scope} {x : Str} (h : visB sc x = true) : Vis sc x := by
  unfold visB at h
  split at h
  · rename_i e; exact .inl e
  · rename_i e; exact .inr (.inl e)
  · rename_i e; exact .inr (.inr e)
  · cases h
theorem locB_of {sc : Scope} {x : Str} (h : locB sc x = true) : sc.names.lookup x = some .local := by
  unfold locB at h
  split at h
  · rename_i e; exact e
  · cases h
theorem glB_of {sc : Scope} {x : Str} (h : glB sc x = true) : sc.names.lookup x = some .globalImplicit := by
  unfold glB at h
  split at h
  · rename_i e; exact e
  · cases h
theorem okN_of {x : Str} (h : okN x = true) : (x == ("__debug__" : Str)) = false ∧ (x == ("__classdict__" : Str)) = false ∧ x ≠ "__name__" := by
  unfold okN at h
  simp only [Bool.and_eq_true, Bool.not_eq_true', decide_eq_false_iff_not] at h
  exact ⟨h.1.1, h.1.2, h.2⟩
mutual
def D.beq : D → D → Bool
  | .non, .non => true
  | .bl a, .bl b => a == b
  | .int a, .int b => a == b
  | .str a, .str b => decide (a = b)
  | .tup a, .tup b => D.beqA a b
  | .lst a, .lst b => D.beqA a b
  | _, _ => false
def D.beqA : List D → List D → Bool
  | [], [] => true
  | a :: as, b :: bs => D.beq a b && D.beqA as bs
  | _, _ => false
end
mutual
theorem D.beq_of : ∀ {a b : D}, D.beq a b = true → a = b
  | .non, b, h => by cases b <;> simp [D.beq] at h <;> rfl
  | .bl x, b, h => by cases b <;> simp [D.beq] at h; rw [h]
  | .int x, b, h => by cases b <;> simp [D.beq] at h; rw [h]
  | .str x, b, h => by cases b <;> simp [D.beq] at h; rw [h]
  | .tup x, b, h => by cases b <;> simp [D.beq] at h; rw [D.beqA_of h]
  | .lst x, b, h => by cases b <;> simp [D.beq] at h; rw [D.beqA_of h]
  | .scr x, b, h => by cases b <;> simp [D.beq] at h
  | .obj x y z, b, h => by cases b <;> simp [D.beq] at h
theorem D.beqA_of : ∀ {a b : List D}, D.beqA a b = true → a = b
  | [], b, h => by cases b <;> simp [D.beqA] at h; rfl
  | x :: xs, b, h => by
    cases b with
    | nil => simp [D.beqA] at h
    | cons y ys =>
      simp only [D.beqA, Bool.and_eq_true] at h
      rw [D.beq_of h.1, D.beqA_of h.2]
end
/-- a written constant -/
def cstB : D → PySem.Const → Bool
  | .non, .none => true
  | .bl a, .bool b => a == b
  | .int i, .int j => i == j
  | .str x, .str y => decide (x = y)
  | _, _ => false
def binB : BOp → Operator → Bool
  | .add, .Add | .sub, .Sub | .mul, .Mult | .fdiv, .FloorDiv | .mod, .Mod | .pow, .Pow => true
  | _, _ => false
def copB : COp → CmpOp → Bool
  | .eq, .Eq | .ne, .NotEq | .lt, .Lt | .le, .LtE | .gt, .Gt | .ge, .GtE => true
  | _, _ => false
/-- is it an expression that may stand as an argument -/
def plainX : Expr → Bool
  | .Starred .. => false
  | _ => true
def noSl : Expr → Bool
  | .Slice .. => false
  | _ => true
def typN : Blt → Option String
  | .isBool => some "bool" | .isInt => some "int" | .isTuple => some "tuple" | .isList => some "list" | .isStr => some "str"
  | _ => none
def bltN : Blt → Option Str
  | .len => some "len" | .abs => some "abs" | .int => some "int" | .min => some "min" | .max => some "max" | .list => some "list" | .tuple => some "tuple"
  | _ => none
def inB (x : Str) (l : List Str) : Bool := l.any fun y => decide (y = x)
theorem inB_of {x : Str} {l : List Str} (h : inB x l = true) : x ∈ l := by
  unfold inB at h
  rw [List.any_eq_true] at h
  obtain ⟨y, hy, e⟩ := h
  exact of_decide_eq_true e ▸ hy
mutual
/-- how a value of this expression is held -/
def tyE (G : Gt) (Γ : List OT) : IE → OT
  | .vr i => (Γ[i]?).getD .fz
  | .ls _ => .ol .fz
  | .tp as => .ot (tyL G Γ as)
  | .call f _ => (G.rt[f]?).getD .fz
  | .blt .list _ => .ol .fz
  | .lc _ _ _ _ => .ol .fz
  | .ix a (.ct (.int (.ofNat k))) => match tyE G Γ a with
    | .ot ts => (ts[k]?).getD .fz
    | _ => .fz
  | _ => .fz
def tyL (G : Gt) (Γ : List OT) : IE → List OT
  | .cons e a => tyE G Γ e :: tyL G Γ a
  | _ => []
end
def OT.isFz : OT → Bool
  | .fz => true
  | _ => false
def setAll {α : Type} (x : α) (l : List α) : List Nat → List α
  | [] => l
  | v :: vs => setAll x (l.set v x) vs
/-- every name that is read stands still -/
def okE (Γ : List OT) : IE → Bool
  | .vr i => ((Γ[i]?).getD .fz).isFz
  | .ct _ => true
  | .gl _ _ => true
  | .nil => true
  | .cons e a => okE Γ e && okE Γ a
  | .tp as => okE Γ as
  | .ls as => okE Γ as
  | .bin _ a b => okE Γ a && okE Γ b
  | .neg a => okE Γ a
  | .cmp _ a b => okE Γ a && okE Γ b
  | .cmp2 _ _ a b c => okE Γ a && okE Γ b && okE Γ c
  | .isN a => okE Γ a
  | .ntN a => okE Γ a
  | .and a b => okE Γ a && okE Γ b
  | .or a b => okE Γ a && okE Γ b
  | .not a => okE Γ a
  | .ife c a b => okE Γ c && okE Γ a && okE Γ b
  | .call _ as => okE Γ as
  | .blt .len (.cons (.vr _) .nil) => true
  | .blt _ as => okE Γ as
  | .ix (.vr i) k => (match (Γ[i]?).getD .fz with | .fz => true | .ol .fz => true | _ => false) && okE Γ k
  | .ix a k => okE Γ a && okE Γ k
  | .sl a l h => okE Γ a && okE Γ l && okE Γ h
  | .slF a l => okE Γ a && okE Γ l
  | .slT a h => okE Γ a && okE Γ h
  | .it _ as => okE Γ as
  | .lc e t it c => okE Γ it && (t.own.all fun i => ((Γ[i]?).getD .fz).isFz) && okE Γ e && okE Γ c
end Pv

/-! Pv, part E: the look at expressions; the operators' rules. -/
namespace Pv
open PySem PySem.Spec PyProof.Rows L2

def noSet : Expr → Bool
  | .Set .. => false
  | _ => true
def blkOwn (N : List Str) (t : Tg) : List (Str × Nat) := t.own.map fun i => ((N[i]?).getD "", i)
mutual
def chkG (N : List Str) (sc : Scope) (fb : Str → Bool) : Tg → Expr → Bool
  | .nm i, .Name x _ => decide (N[i]? = some x) && (match sc.names.lookup x with | some .local => true | some .cell => fb x | _ => false)
  | .tp t, .Tuple es _ _ => chkGs N sc fb t es
  | _, _ => false
def chkGs (N : List Str) (sc : Scope) (fb : Str → Bool) : Tg → List Expr → Bool
  | .nil, [] => true
  | .cons t ts, e :: es => plainX e && chkG N sc fb t e && chkGs N sc fb ts es
  | _, _ => false
end
mutual
def chkE (G : Gt) (N : List Str) (sc : Scope) : IE → Expr → Bool
  | .vr i, .Name x _ => decide (N[i]? = some x) && visB sc x && okN x
  | .ct d, .Constant c _ _ => cstB d c
  | .gl x d, .Name y _ => decide (x = y) && glB sc y && okN y && G.gl.any fun p => decide (p.1 = y) && D.beq p.2 d
  | .tp as, .Tuple es _ _ => chkA G N sc as es
  | .ls as, .List es _ => chkA G N sc as es
  | .bin o a b, .BinOp x op y _ => binB o op && chkE G N sc a x && chkE G N sc b y
  | .neg a, .UnaryOp .USub x _ => chkE G N sc a x
  | .cmp o a b, .Compare x [op] [y] _ => copB o op && chkE G N sc a x && chkE G N sc b y
  | .cmp2 o p a b c, .Compare x [op, op'] [y, z] _ => copB o op && copB p op' && chkE G N sc a x && chkE G N sc b y && chkE G N sc c z
  | .isN a, .Compare x [.Is] [.Constant .none _ _] _ => chkE G N sc a x
  | .ntN a, .Compare x [.IsNot] [.Constant .none _ _] _ => chkE G N sc a x
  | .and a b, .BoolOp .And [x, y] _ => chkE G N sc a x && chkE G N sc b y
  | .and a b, .BoolOp .And (x :: y :: z :: r) _ => chkE G N sc a x && chkO G N sc .And b (y :: z :: r)
  | .or a b, .BoolOp .Or [x, y] _ => chkE G N sc a x && chkE G N sc b y
  | .or a b, .BoolOp .Or (x :: y :: z :: r) _ => chkE G N sc a x && chkO G N sc .Or b (y :: z :: r)
  | .not a, .UnaryOp .Not x _ => chkE G N sc a x
  | .ife c a b, .IfExp z x y _ => chkE G N sc c z && chkE G N sc a x && chkE G N sc b y
  | .call j as, .Call (.Name x _) es [] _ => decide (j < G.lv) && decide (G.fn[j]? = some x) && glB sc x && okN x && chkA G N sc as es
  | .blt .gcd as, .Call (.Name x _) (e :: es) [] _ => G.gc && decide (x = "gcd") && glB sc x && chkA G N sc as (e :: es)
  | .blt b (.cons a .nil), .Call (.Name x _) [e, .Name ty _] [] _ => (match typN b with
    | some tn => decide (x = "isinstance") && glB sc x && inB x G.bl && decide (ty = Str.ofString tn) && glB sc ty && inB ty G.bl && plainX e && chkE G N sc a e
    | none => false)
  | .blt b as, .Call (.Name x _) (e :: es) [] _ => (match bltN b with
    | some y => decide (x = y) && glB sc x && inB x G.bl && chkA G N sc as (e :: es)
    | none => false)
  | .ix a i, .Subscript x y _ => noSl y && chkE G N sc a x && chkE G N sc i y
  | .sl a lo hi, .Subscript x (.Slice (some l) (some h) none _) _ => chkE G N sc a x && chkE G N sc lo l && chkE G N sc hi h
  | .slF a lo, .Subscript x (.Slice (some l) none none _) _ => chkE G N sc a x && chkE G N sc lo l
  | .slT a hi, .Subscript x (.Slice none (some h) none _) _ => chkE G N sc a x && chkE G N sc hi h
  | .lc e t it c, .ListComp x [⟨tg, iter, ifs, 0⟩] scope _ => blkC N sc scope (blkOwn N t) && noSet iter && chkI G N sc it tg iter && chkG N (relS scope sc) (fun x => scope.names.lookup x == some .cell) t tg && chkE G N (relS scope sc) e x && (match ifs with
    | [] => (match c with | .nil => true | _ => false)
    | [i] => (match c with | .nil => false | _ => chkE G N (relS scope sc) c i)
    | _ => false)
  | _, _ => false
def chkA (G : Gt) (N : List Str) (sc : Scope) : IE → List Expr → Bool
  | .nil, [] => true
  | .cons e a, x :: xs => plainX x && chkE G N sc e x && chkA G N sc a xs
  | _, _ => false
/-- the rest of an and, an or, of two parts or more -/
def chkO (G : Gt) (N : List Str) (sc : Scope) (op : PySem.BoolOp) : IE → List Expr → Bool
  | .and a b, [y, z] => (match op with | .And => true | _ => false) && chkE G N sc a y && chkE G N sc b z
  | .or a b, [y, z] => (match op with | .Or => true | _ => false) && chkE G N sc a y && chkE G N sc b z
  | .and a b, y :: z :: w :: r => (match op with | .And => true | _ => false) && chkE G N sc a y && chkO G N sc op b (z :: w :: r)
  | .or a b, y :: z :: w :: r => (match op with | .Or => true | _ => false) && chkE G N sc a y && chkO G N sc op b (z :: w :: r)
  | _, _ => false
/-- what is gone through -/
def chkI (G : Gt) (N : List Str) (sc : Scope) : IE → Expr → Expr → Bool
  | .it .rng (.cons a .nil), _, .Call (.Name x _) [e] [] _ => decide (x = "range") && glB sc x && inB x G.bl && plainX e && chkE G N sc a e
  | .it .rng (.cons a (.cons b .nil)), _, .Call (.Name x _) [e, f] [] _ => decide (x = "range") && glB sc x && inB x G.bl && plainX e && plainX f && chkE G N sc a e && chkE G N sc b f
  | .it .zip (.cons a (.cons b .nil)), .Tuple _ _ _, .Call (.Name x _) [e, f] [] _ => decide (x = "zip") && glB sc x && inB x G.bl && plainX e && plainX f && chkE G N sc a e && chkE G N sc b f
  | .it .enu (.cons a .nil), .Tuple _ _ _, .Call (.Name x _) [e] [] _ => decide (x = "enumerate") && glB sc x && inB x G.bl && plainX e && chkE G N sc a e
  | .it .rev (.cons a .nil), _, .Call (.Name x _) [e] [] _ => decide (x = "reversed") && glB sc x && inB x G.bl && plainX e && chkE G N sc a e
  | .it .val (.cons a .nil), _, e => plainX e && chkE G N sc a e
  | _, _, _ => false
end
end Pv

/-! Pv, part F: each form of expression: its rule over plain data. -/
namespace Pv
open PySem PySem.Spec PyProof.Rows L2

theorem PE.imp {X : Cx} {e : Expr} {t t' : TE} (h : PE X e t) (i : ∀ σ H Q, t' σ H Q → t σ H Q) : PE X e t' := ⟨fun pins s σ H Q I q => h.run pins s σ H Q I (i σ H Q q)⟩
theorem PT.imp {X : Cx} {e : Expr} {t t' : TT} (h : PT X e t) (i : ∀ σ H Q, t' σ H Q → t σ H Q) : PT X e t' := ⟨fun pins s σ H Q I q => h.run pins s σ H Q I (i σ H Q q)⟩
theorem PW.imp {X : Cx} {e : Expr} {t t' : TT} (h : PW X e t) (i : ∀ σ H Q, t' σ H Q → t σ H Q) : PW X e t' := ⟨fun wh pins s σ H Q I q => h.run wh pins s σ H Q I (i σ H Q q)⟩
theorem PA.imp {X : Cx} {e : List Expr} {t t' : TA} (h : PA X e t) (i : ∀ σ H Q, t' σ H Q → t σ H Q) : PA X e t' := ⟨fun p pins s σ H Q I q => h.run p pins s σ H Q I (i σ H Q q)⟩
theorem CallR.or {X : Cx} {f : Value} {r r' : List V → Hp → VK → Prop} (h : CallR X f r) (h' : CallR X f r') : CallR X f (fun xs H Q => r xs H Q ∨ r' xs H Q) := fun pins s σ H xs us Q I rx q =>
  q.elim (h pins s σ H xs us Q I rx) (h' pins s σ H xs us Q I rx)
theorem IxR.or {X : Cx} {r r' : R2} (h : IxR X r) (h' : IxR X r') : IxR X (fun x y H Q => r x y H Q ∨ r' x y H Q) := fun e f pins s σ H x y v u Q I rx ry q hs =>
  q.elim (fun z => h e f pins s σ H x y v u Q I rx ry z hs) (fun z => h' e f pins s σ H x y v u Q I rx ry z hs)

/-! ### what may be called, what the context is -/
/-- an exception as plain data: its class, its fields -/
def ExR (T : Tb) (H : Hp) (cl : Value) (dx : Option Addr) (k : Str) (es : List D) : Prop := ∃ a, cl = .ref a ∧ T.cls k = some a ∧ ((es = [] ∧ dx = none) ∨ ∃ d fs, dx = some d ∧ H d = some (.xd fs) ∧ RepA T H (fs.map (·.2)) es)
/-- a def's promise, over plain data -/
def spS (T : Tb) (S : Sem1) (t : OT) (n : Nat) (j : Nat) : Sp := fun vs H Q E => ∃ (U : Addr → Prop) (ds : List D), (∀ a, U a → H a ≠ none) ∧ RepA T (msk H U) vs ds ∧ vs.length = n ∧ (match S j ds with
  | .ok d => ∀ v H' (f : List Addr), Same H H' → f.Nodup → New H f → Own T (msk H' fun a => U a ∨ a ∈ f) H' t f v d → Q v H'
  | .ex k es => ∀ cl dx H', Same H H' → ExR T H' cl dx k es → E cl dx H'
  | .bad => False)
structure FF (G : Gt) (T : Tb) (S : Sem1) (n : Nat) (P : Program) (w : World) (mg : Str → Option Value) (base : Heap) : Prop where
  fn : ∀ (j : Nat) (x : Str), j < n → G.fn[j]? = some x → ∃ (f : Addr) (fd : FuncData) (ps : List Str), G.ps[j]? = some ps ∧ mg x = some (.ref f) ∧ PySem.W.keepIn T.K (.ref f) = true ∧ Binds T.K fd ps [] ∧ (∀ ds, S j ds ≠ .bad → ds.length = ps.length) ∧
    FnOk P w T.K mg base (L2.CX P w) (j + 1) f fd ps (spS T S ((G.rt[j]?).getD .fz) ps.length j)
  gl : ∀ p ∈ G.gl, ∃ v u, mg p.1 = some u ∧ RelV v u ∧ ∀ H, Rep T H v p.2
  bl : ∀ x ∈ G.bl, mg x = none
  gc : G.gc = true → mg "gcd" = some (.builtin "math.gcd")
def EXK (C : Ct) : XK := fun cl dx H' => ∃ k es, ExR C.T H' cl dx k es ∧ C.xc.Sm H' ∧ C.EX k es
structure XF (G : Gt) (C : Ct) (N : List Str) (sc : Scope) (X : Cx) : Prop where
  K : X.K = C.T.K
  calm : X.calm = true
  nd : N.Nodup
  N : X.N = N
  sc : X.env.scope = sc
  room : Room G.lv X.A
  ff : FF G C.T C.S G.lv X.prog X.w X.mg X.base
  hx : Passes (L2.CX X.prog X.w) X (EXK C)
section
variable {G : Gt} {C : Ct} {N : List Str} {sc : Scope} {X : Cx} {Γ : List OT}
theorem XF.hu (F : XF G C N sc X) : X.A.units + 64 < cLine := F.room.units
theorem XF.gl (F : XF G C N sc X) {x : Str} (h : glB sc x = true) : Gl X x := by
  have := glB_of h
  rw [← F.sc] at this
  exact this
theorem XF.vis (F : XF G C N sc X) {x : Str} (h : visB sc x = true) : Vis X.env.scope x := by
  rw [F.sc]; exact visB_of h

/-! ### names, constants -/
theorem snd_vr (F : XF G C N sc X) {i : Nat} {x : Str} {pos : Pos} (hN : N[i]? = some x) (hv : visB sc x = true) (ok : okN x = true) (hz : ((Γ[i]?).getD .fz).isFz = true) : PE X (.Name x pos) (rE C Γ ((Γ[i]?).getD .fz) (.vr i)) := by
  obtain ⟨o1, o2, o3⟩ := okN_of ok
  refine PE.imp (pe_var (i := i) (by rw [F.N]; exact hN) (F.vis hv) o1 o2) fun σ H Q h => ?_
  obtain ⟨c, fs, env, so, sm, p⟩ := h
  simp only [ev] at p
  split at p
  · rename_i d e
    obtain ⟨v, t, f, h1, h2, h3, o⟩ := so.sl.get e
    rw [h2] at hz p
    refine ⟨v, h1, p v H (Same.refl H) ?_⟩
    cases t with
    | fz =>
      cases o with
      | fz r => exact .of_rep r
    | ol t => cases hz
    | ot t => cases hz
    | oi t => cases hz
  · exact p.elim
theorem snd_ct (F : XF G C N sc X) {d : D} {k : PySem.Const} {j : Nat} {pos : Pos} (h : cstB d k = true) : PE X (.Constant k j pos) (rE C Γ .fz (.ct d)) := by
  have fin : ∀ {v : V}, (∀ H, Rep C.T H v d) → ∀ σ H Q, rE C Γ .fz (.ct d) σ H Q → tC v σ H Q := fun {v} r σ H Q h => by
    obtain ⟨c, fs, env, so, sm, p⟩ := h
    exact p v H (Same.refl H) (.of_rep (r _))
  cases d with
  | non =>
    cases k with
    | none => exact PE.imp pe_non (fin fun _ => .non)
    | _ => cases h
  | bl b =>
    cases k with
    | bool b' =>
      have e : b = b' := by simpa [cstB] using h
      subst e
      exact PE.imp pe_bl (fin fun _ => .bl b)
    | _ => cases h
  | int b =>
    cases k with
    | int b' =>
      have e : b = b' := by simpa [cstB] using h
      subst e
      exact PE.imp pe_int (fin fun _ => .int b)
    | _ => cases h
  | str b =>
    cases k with
    | str b' =>
      have e : b = b' := of_decide_eq_true h
      subst e
      exact PE.imp pe_str (fin fun _ => .str b)
    | _ => cases h
  | _ => cases k <;> cases h
theorem snd_gl (F : XF G C N sc X) {x : Str} {d : D} {pos : Pos} (hg : glB sc x = true) (ok : okN x = true) (hm : (x, d) ∈ G.gl) : PE X (.Name x pos) (rE C Γ .fz (.gl x d)) := by
  obtain ⟨o1, o2, o3⟩ := okN_of ok
  obtain ⟨v, u, e, r, k⟩ := F.ff.gl _ hm
  refine PE.imp (pe_glob (F.gl hg) e r o1) fun σ H Q h => ?_
  obtain ⟨c, fs, env, so, sm, p⟩ := h
  exact p v H (Same.refl H) (.of_rep (k _))

/-! ### two operands -/
/-- the state behind two operands, and what is still wanted of f -/
def Two (C : Ct) (Γ : List OT) (ta tb t : OT) (f : D → D → R) (Q : VK) (H : Hp) (v w : V) (H2 : Hp) : Prop := ∃ c fs env σ x y, SO C.T c Γ fs H σ env ∧ SO C.T c Γ fs H2 σ env ∧ C.xc.Sm H2 ∧ Same H H2 ∧
  RO C.T c ta fs.flatten H H2 v x ∧ RO C.T c tb fs.flatten H H2 w y ∧ Pst C.EX (fun d => ∀ v' H', Same H2 H' → RO C.T c t fs.flatten H2 H' v' d → Q v' H') (f x y)
theorem rE_two {a b : IE} {ta tb t : OT} {f : D → D → R} {σ : L2.St} {H : Hp} {Q : VK}
    (h : ∃ c fs env, SO C.T c Γ fs H σ env ∧ C.xc.Sm H ∧ Pst C.EX (fun d => ∀ v H', Same H H' → RO C.T c t fs.flatten H H' v d → Q v H') ((ev C.S env a).bind fun x => (ev C.S env b).bind fun y => f x y)) :
    rE C Γ ta a σ H fun v H1 => rE C Γ tb b σ H1 fun w H2 => Two C Γ ta tb t f Q H v w H2 := by
  obtain ⟨c, fs, env, so, sm, p⟩ := h
  refine ⟨c, fs, env, so, sm, p.bind.imp fun x px v H1 s1 r1 => ?_⟩
  refine ⟨c, fs, env, so.mono s1, sm.mono s1, px.bind.imp fun y py w H2 s2 r2 => ?_⟩
  exact ⟨c, fs, env, σ, x, y, so, (so.mono s1).mono s2, (sm.mono s1).mono s2, s1.trans s2, r1.later (so.mono s1) s2, r2.same s1, py.imp fun d k v' H' s3 r3 => k v' H' ((s1.trans s2).trans s3) (r3.same (s1.trans s2))⟩
theorem snd_op {op : Operator} {r : R2} {x y : Expr} {pos : Pos} {a b : IE} {ta tb t : OT} {f : D → D → R} {e : IE} (ho : OpR X (binaryOp op) r) (ha : PE X x (rE C Γ ta a)) (hb : PE X y (rE C Γ tb b))
    (he : ∀ env, ev C.S env e = (ev C.S env a).bind fun x => (ev C.S env b).bind fun y => f x y) (hr : ∀ H v w H2 Q, Two C Γ ta tb t f Q H v w H2 → r v w H2 Q) : PE X (.BinOp x op y pos) (rE C Γ t e) :=
  PE.imp (pe_op ho ha hb) fun σ H Q h => by
    obtain ⟨c, fs, env, so, sm, p⟩ := h
    rw [he] at p
    have q := rE_two (ta := ta) (tb := tb) ⟨c, fs, env, so, sm, p⟩
    obtain ⟨c, fs, env, so, sm, p⟩ := q
    refine ⟨c, fs, env, so, sm, p.imp fun d k v H1 s1 r1 => ?_⟩
    obtain ⟨c, fs, env, so, sm, p⟩ := k v H1 s1 r1
    exact ⟨c, fs, env, so, sm, p.imp fun d k v H1 s1 r1 => hr _ _ _ _ _ (k v H1 s1 r1)⟩
/-- the same where operands are of another form (comparisons, subscripts) -/
theorem two_imp {a b : IE} {ta tb t : OT} {f : D → D → R} {e : IE} {r : R2} (he : ∀ env, ev C.S env e = (ev C.S env a).bind fun x => (ev C.S env b).bind fun y => f x y)
    (hr : ∀ H v w H2 Q, Two C Γ ta tb t f Q H v w H2 → r v w H2 Q) (σ : L2.St) (H : Hp) (Q : VK) (h : rE C Γ t e σ H Q) : tOp r (rE C Γ ta a) (rE C Γ tb b) σ H Q := by
  obtain ⟨c, fs, env, so, sm, p⟩ := h
  rw [he] at p
  have q := rE_two (ta := ta) (tb := tb) ⟨c, fs, env, so, sm, p⟩
  obtain ⟨c, fs, env, so, sm, p⟩ := q
  refine ⟨c, fs, env, so, sm, p.imp fun d k v H1 s1 r1 => ?_⟩
  obtain ⟨c, fs, env, so, sm, p⟩ := k v H1 s1 r1
  exact ⟨c, fs, env, so, sm, p.imp fun d k v H1 s1 r1 => hr _ _ _ _ _ (k v H1 s1 r1)⟩

/-! ### the operators -/
def CDivX (_ j : Int) : Prop := j ≠ 0 ∧ j.natAbs.log2 < 9000
theorem op_fdivX : OpR X (binaryOp .FloorDiv) (rI CDivX fun i j => .int (i.fdiv j)) := opI fun _ _ _ _ _ _ _ hc q => floordiv_int hc.1 q (.inl (PyProof.noPylong_of_log2 hc.2))
theorem lim_le : lim ≤ sizeLine := by rw [sizeLine_eq]; decide
section
variable {ta tb : OT} {f : D → D → R} {Q : VK} {H H2 : Hp} {v w : V}
theorem two_int {o : BOp} {C' : Int → Int → Prop} {g : Int → Int → Int} (hf : ∀ x y, binD o x y ≠ .bad → (∀ k es, binD o x y ≠ .ex k es) ∧ ((∃ i j, x = .int i ∧ y = .int j ∧ C' i j ∧ binD o x y = .ok (.int (g i j)))))
    (h : Two C Γ ta tb .fz (binD o) Q H v w H2) : rI C' (fun i j => .int (g i j)) v w H2 Q := by
  obtain ⟨c, fs, env, σ, x, y, so0, so, sm, s, rx, ry, p⟩ := h
  have nb : binD o x y ≠ .bad := fun e => by rw [e] at p; exact p
  obtain ⟨_, i, j, rfl, rfl, hc, e⟩ := hf x y nb
  rw [e] at p
  rw [rx.int, ry.int]
  exact ⟨i, j, rfl, rfl, hc, p _ _ (Same.refl H2) .mkInt⟩
end
def rTrue : Int → Int → Prop := fun _ _ => True
theorem rI_0 {g : Int → Int → V} {v w : V} {H : Hp} {Q : VK} (h : rI rTrue g v w H Q) : rI0 g v w H Q := by
  obtain ⟨i, j, e1, e2, _, q⟩ := h
  exact ⟨i, j, e1, e2, q⟩
theorem snd_bin (F : XF G C N sc X) {o : BOp} {op : Operator} {x y : Expr} {pos : Pos} {a b : IE} {ta tb : OT} (hop : binB o op = true) (ha : PE X x (rE C Γ ta a)) (hb : PE X y (rE C Γ tb b)) : PE X (.BinOp x op y pos) (rE C Γ .fz (.bin o a b)) := by
  have he : ∀ env, ev C.S env (.bin o a b) = (ev C.S env a).bind fun x => (ev C.S env b).bind fun y => binD o x y := fun _ => rfl
  cases o with
  | sub =>
    cases op with
    | Sub =>
      refine snd_op op_sub ha hb he fun H v w H2 Q t => rI_0 (two_int (o := .sub) (g := fun i j => i - j) (fun x y nb => ?_) t)
      cases x <;> cases y <;> first | exact absurd rfl nb | exact ⟨fun _ _ z => (nomatch z), _, _, rfl, rfl, trivial, rfl⟩
    | _ => cases hop
  | fdiv =>
    cases op with
    | FloorDiv =>
      refine snd_op op_fdivX ha hb he fun H v w H2 Q t => two_int (o := .fdiv) (g := fun i j => i.fdiv j) (fun x y nb => ?_) t
      cases x <;> cases y <;> first
        | exact absurd rfl nb
        | (rename_i i j
           by_cases hd : divOk j = true
           · have hd' := hd
             unfold divOk at hd'
             simp only [Bool.and_eq_true, bne_iff_ne, decide_eq_true_eq] at hd'
             have e : binD .fdiv (.int i) (.int j) = .ok (.int (i.fdiv j)) := by simp [binD, hd]
             exact ⟨(fun _ _ z => by rw [e] at z; cases z), i, j, rfl, rfl, hd', e⟩
           · exact absurd (by simp [binD, hd]) nb)
    | _ => cases hop
  | mod =>
    cases op with
    | Mod =>
      refine snd_op op_modN ha hb he fun H v w H2 Q t => two_int (o := .mod) (g := fun i j => i.fmod j) (fun x y nb => ?_) t
      cases x <;> cases y <;> first
        | exact absurd rfl nb
        | (rename_i i j
           by_cases hd : j = 0
           · exact absurd (by simp [binD, hd]) nb
           · have e : binD .mod (.int i) (.int j) = .ok (.int (i.fmod j)) := by simp [binD, hd]
             exact ⟨(fun _ _ z => by rw [e] at z; cases z), i, j, rfl, rfl, hd, e⟩)
    | _ => cases hop
  | pow =>
    cases op with
    | Pow =>
      refine snd_op op_pow ha hb he fun H v w H2 Q t => two_int (o := .pow) (g := fun i j => i ^ j.toNat) (fun x y nb => ?_) t
      cases x <;> cases y <;> first
        | exact absurd rfl nb
        | (rename_i i j
           by_cases hd : powOk i j = true
           · have hd' := hd
             unfold powOk at hd'
             simp only [Bool.and_eq_true, decide_eq_true_eq] at hd'
             have e : binD .pow (.int i) (.int j) = .ok (.int (i ^ j.toNat)) := by simp [binD, hd]
             exact ⟨(fun _ _ z => by rw [e] at z; cases z), i, j, rfl, rfl, ⟨hd'.1.1, hd'.1.2, hd'.2⟩, e⟩
           · exact absurd (by simp [binD, hd]) nb)
    | _ => cases hop
  | mul =>
    cases op with
    | Mult =>
      refine snd_op (op_mulW.or op_rep) ha hb he fun H v w H2 Q t => ?_
      obtain ⟨c, fs, env, σ, x, y, so0, so, sm, s, rx, ry, p⟩ := t
      cases x with
      | int i =>
        cases y with
        | int j =>
          by_cases hm : mulOk i j = true
          · simp only [binD, hm, if_true] at p
            refine .inl ⟨i, j, rx.int, ry.int, (by simpa [mulOk, CMulW] using hm), p _ _ (Same.refl H2) .mkInt⟩
          · simp only [binD, hm] at p
            exact p.elim
        | _ => exact p.elim
      | lst l =>
        cases y with
        | int k =>
          simp only [binD] at p
          split at p
          · rename_i hk
            unfold mkL at p
            split at p
            · rename_i hl
              have rl := rx.rep so0
              cases rl with
              | lst hv ra =>
                rename_i q vs
                have hlen := ra.length
                refine .inr ⟨q, k, vs, rfl, ry.int, (msk_some.mp hv).2, by omega, by omega, ?_, fun p' np => p _ _ (same_upd np) ?_⟩
                · refine Nat.le_trans ?_ lim_le
                  rw [List.length_flatten, List.map_replicate, List.sum_replicate_nat] at hl
                  rw [hlen, Nat.mul_comm]; exact hl
                · exact (RO.mkL so (Same.refl H2) np (ra.rep k.toNat)).fz so
            · exact p.elim
          · exact p.elim
        | _ => exact p.elim
      | _ => exact p.elim
    | _ => cases hop
  | add =>
    cases op with
    | Add =>
      refine snd_op (op_add.or (op_cat.or op_catA)) ha hb he fun H v w H2 Q t => ?_
      obtain ⟨c, fs, env, σ, x, y, so0, so, sm, s, rx, ry, p⟩ := t
      cases x with
      | int i =>
        cases y with
        | int j => exact .inl ⟨i, j, rx.int, ry.int, p _ _ (Same.refl H2) .mkInt⟩
        | _ => exact p.elim
      | lst l =>
        cases y with
        | lst m =>
          simp only [binD, mkL] at p
          split at p
          · rename_i hl
            have r1 := rx.rep so0
            have r2 := ry.rep so0
            cases r1 with
            | lst h1 a1 =>
              cases r2 with
              | lst h2 a2 =>
                have l1 := a1.length
                have l2 := a2.length
                rw [List.length_append] at hl
                refine .inr (.inl ⟨_, _, _, _, rfl, rfl, (msk_some.mp h1).2, (msk_some.mp h2).2, Nat.le_trans (by omega) lim_le, fun p' np => p _ _ (same_upd np) ?_⟩)
                exact (RO.mkL so (Same.refl H2) np (a1.append a2)).fz so
          · exact p.elim
        | _ => exact p.elim
      | tup l =>
        cases y with
        | tup m =>
          simp only [binD, mkT] at p
          split at p
          · rename_i hl
            have r1 := rx.rep so0
            have r2 := ry.rep so0
            cases r1 with
            | tup h1 a1 =>
              cases r2 with
              | tup h2 a2 =>
                have l1 := a1.length
                have l2 := a2.length
                rw [List.length_append] at hl
                rw [F.K]
                refine .inr (.inr ⟨_, _, _, _, rfl, rfl, seqT msk_same h1, seqT msk_same h2, Nat.le_trans (by omega) lim_le, fun e => ?_, fun e1 e2 => ?_, fun e1 e2 p' np => p _ _ (same_upd np) (.mkT so np (a1.append a2))⟩)
                · subst e
                  cases a1
                  exact p _ _ (Same.refl H2) (.of_rep (.tup h2 a2))
                · subst e2
                  cases a2
                  refine p _ _ (Same.refl H2) (.of_rep ?_)
                  rw [List.append_nil]
                  exact .tup h1 a1
          · exact p.elim
        | _ => exact p.elim
      | _ => exact p.elim
    | _ => cases hop
theorem snd_neg (F : XF G C N sc X) {x : Expr} {pos : Pos} {a : IE} {ta : OT} (ha : PE X x (rE C Γ ta a)) : PE X (.UnaryOp .USub x pos) (rE C Γ .fz (.neg a)) :=
  PE.imp (pe_un un_neg ha) fun σ H Q h => by
    obtain ⟨c, fs, env, so, sm, p⟩ := h
    refine ⟨c, fs, env, so, sm, (Pst.bind p).imp fun x k v H1 s1 r1 => ?_⟩
    cases x with
    | int i => exact ⟨i, r1.int, k _ _ s1 .mkInt⟩
    | _ => exact k.elim
end
end Pv

/-! Pv, part G: comparisons, and, or, not, displays, calls, subscripts. -/
namespace Pv
open PySem PySem.Spec PyProof.Rows L2

mutual
theorem Rep.dp {T : Tb} {H : Hp} : ∀ {v : V} {d : D} {p : PyData}, Rep T H v d → D.py d = some p → Dp T.K H v p
  | _, _, _, .non, e => by cases e; exact .non
  | _, _, _, .bl b, e => by cases e; exact .bl b
  | _, _, _, .int i, e => by cases e; exact .int i
  | _, _, _, .str s, e => by cases e; exact .str s
  | _, _, _, .tup h r, e => by
    simp only [D.py, Option.map_eq_some_iff] at e
    obtain ⟨ps, e, rfl⟩ := e
    exact .tup h (RepA.dp r e)
  | _, _, _, .lst h r, e => by
    simp only [D.py, Option.map_eq_some_iff] at e
    obtain ⟨ps, e, rfl⟩ := e
    exact .lst (.of h) (RepA.dp r e)
  | _, _, _, .scr h, e => by simp [D.py] at e
  | _, _, _, .obj _ _ _, e => by simp [D.py] at e
theorem RepA.dp {T : Tb} {H : Hp} : ∀ {vs : List V} {ds : List D} {ps : List PyData}, RepA T H vs ds → D.pyA ds = some ps → DpAll T.K H vs ps
  | _, _, _, .nil, e => by cases e; exact .nil
  | _, _, _, .cons r t, e => by
    simp only [D.pyA] at e
    split at e
    · rename_i e1 e2
      cases e
      exact .cons (Rep.dp r e1) (RepA.dp t e2)
    · cases e
end
section
variable {G : Gt} {C : Ct} {N : List Str} {sc : Scope} {X : Cx} {Γ : List OT}

/-! ### comparisons -/
def copR (K : PySem.W.Frag) : COp → R2
  | .eq => rEqD K
  | .ne => rNeD K
  | .lt => rI0 fun i j => .bl (decide (i < j))
  | .le => rI0 fun i j => .bl (decide (i ≤ j))
  | .gt => rI0 fun i j => .bl (decide (j < i))
  | .ge => rI0 fun i j => .bl (decide (j ≤ i))
theorem cop_ok (hu : X.A.units + 64 < cLine) {o : COp} {op : CmpOp} (h : copB o op = true) : OpR X (compareOp op) (copR X.K o) ∧ op ≠ .In ∧ op ≠ .NotIn := by
  cases o with
  | eq =>
    cases op with
    | Eq => exact ⟨op_eqD hu, by decide, by decide⟩
    | _ => cases h
  | ne =>
    cases op with
    | NotEq => exact ⟨op_neD hu, by decide, by decide⟩
    | _ => cases h
  | lt =>
    cases op with
    | Lt => exact ⟨op_lt, by decide, by decide⟩
    | _ => cases h
  | le =>
    cases op with
    | LtE => exact ⟨op_le, by decide, by decide⟩
    | _ => cases h
  | gt =>
    cases op with
    | Gt => exact ⟨op_gt, by decide, by decide⟩
    | _ => cases h
  | ge =>
    cases op with
    | GtE => exact ⟨op_ge, by decide, by decide⟩
    | _ => cases h
theorem eqD_ok {a b : D} (h : eqD a b ≠ .bad) : D.cmpOk a = true ∧ D.cmpOk b = true ∧ D.dp a ≤ 60 ∧ D.dp b ≤ 60 ∧ eqD a b = .ok (.bl (D.eqv a b)) := by
  unfold eqD at h ⊢
  split at h
  · rename_i q
    simp only [Bool.and_eq_true, decide_eq_true_eq] at q
    refine ⟨q.1.1.1, q.1.1.2, q.1.2, q.2, ?_⟩
    rw [if_pos (by simp [q])]
  · exact absurd rfl h
/-- what a comparison asks of two values is met -/
theorem cop_met {o : COp} {ta tb : OT} {c : Cfg} {fs : List (List Addr)} {H H2 : Hp} {σ : L2.St} {env : Env} {v w : V} {x y : D} {Q : VK} {d : D}
    (so : SO C.T c Γ fs H σ env) (rx : RO C.T c ta fs.flatten H H2 v x) (ry : RO C.T c tb fs.flatten H H2 w y) (e : cmpD o x y = .ok d) (q : ∀ b, d = .bl b → Q (.bl b) H2) : copR C.T.K o v w H2 Q := by
  have deep : ∀ {b : Bool}, eqD x y = .ok (.bl b) → ∃ p p', Dp C.T.K H2 v p ∧ Dp C.T.K H2 w p' ∧ SeqAt.shaped p = true ∧ SeqAt.shaped p' = true ∧ PyData.eqv p p' = b := fun {b} e => by
    obtain ⟨o1, o2, d1, d2, e'⟩ := eqD_ok (a := x) (b := y) (fun z => by rw [z] at e; cases e)
    rw [e'] at e
    obtain ⟨p, p1, p2, p3⟩ := D.py_of o1
    obtain ⟨p', q1, q2, q3⟩ := D.py_of o2
    refine ⟨p, p', ((rx.rep so).mono msk_same).dp p1, ((ry.rep so).mono msk_same).dp q1, ?_, ?_, ?_⟩
    · unfold SeqAt.shaped; rw [p2, p3]; simp; omega
    · unfold SeqAt.shaped; rw [q2, q3]; simp; omega
    · rw [D.eqv_py p1 q1]
      cases e
      rfl
  cases o with
  | eq =>
    have e' : eqD x y = .ok d := e
    obtain ⟨_, _, _, _, e2⟩ := eqD_ok (a := x) (b := y) (fun z => by rw [z] at e'; cases e')
    rw [e2] at e'
    cases e'
    obtain ⟨p, p', h1, h2, h3, h4, h5⟩ := deep e2
    exact ⟨p, p', h1, h2, h3, h4, by rw [h5]; exact q _ rfl⟩
  | ne =>
    have e' : notR (eqD x y) = .ok d := e
    obtain ⟨_, _, _, _, e2⟩ := eqD_ok (a := x) (b := y) (fun z => by rw [z] at e'; cases e')
    rw [e2] at e'
    cases e'
    obtain ⟨p, p', h1, h2, h3, h4, h5⟩ := deep e2
    exact ⟨p, p', h1, h2, h3, h4, by rw [h5]; exact q _ rfl⟩
  | _ =>
    cases x <;> first
      | (cases e; done)
      | (cases y <;> first
          | (cases e; done)
          | (cases e; exact ⟨_, _, rx.int, ry.int, q _ rfl⟩))
theorem cmpD_bl {o : COp} {x y d : D} (e : cmpD o x y = .ok d) : ∃ b, d = .bl b := by
  cases o with
  | eq =>
    have e' : eqD x y = .ok d := e
    obtain ⟨_, _, _, _, e2⟩ := eqD_ok (a := x) (b := y) (fun z => by rw [z] at e'; cases e')
    rw [e2] at e'
    cases e'
    exact ⟨_, rfl⟩
  | ne =>
    have e' : notR (eqD x y) = .ok d := e
    obtain ⟨_, _, _, _, e2⟩ := eqD_ok (a := x) (b := y) (fun z => by rw [z] at e'; cases e')
    rw [e2] at e'
    cases e'
    exact ⟨_, rfl⟩
  | _ => cases x <;> first | (cases e; done) | (cases y <;> first | (cases e; done) | (cases e; exact ⟨_, rfl⟩))
theorem cmpD_ex {o : COp} {x y : D} {k : Str} {es : List D} : cmpD o x y ≠ .ex k es := fun e => by
  cases o with
  | eq =>
    have e' : eqD x y = .ex k es := e
    unfold eqD at e'
    split at e' <;> cases e'
  | ne =>
    have e' : notR (eqD x y) = .ex k es := e
    unfold eqD at e'
    split at e' <;> cases e'
  | _ => cases x <;> first | (cases e; done) | (cases y <;> cases e)
theorem cop_two {o : COp} {ta tb : OT} (H : Hp) (v w : V) (H2 : Hp) (Q : VK) (h : Two C Γ ta tb .fz (cmpD o) Q H v w H2) : copR C.T.K o v w H2 Q := by
  obtain ⟨c, fs, env, σ, x, y, so0, so, sm, s, rx, ry, p⟩ := h
  cases e : cmpD o x y with
  | ok d =>
    rw [e] at p
    obtain ⟨b, rfl⟩ := cmpD_bl e
    exact cop_met so0 rx ry e fun b' z => by cases z; exact p _ _ (Same.refl H2) .mkBl
  | ex k es => exact absurd e cmpD_ex
  | bad => rw [e] at p; exact p.elim
theorem snd_cmp (F : XF G C N sc X) {o : COp} {op : CmpOp} {x y : Expr} {pos : Pos} {a b : IE} {ta tb : OT} (hop : copB o op = true) (ha : PE X x (rE C Γ ta a)) (hb : PE X y (rE C Γ tb b)) : PE X (.Compare x [op] [y] pos) (rE C Γ .fz (.cmp o a b)) := by
  obtain ⟨h1, h2, h3⟩ := cop_ok (X := X) F.hu hop
  rw [F.K] at h1
  exact PE.imp (pe_cmpR h1 ha hb (nomark _ h2 h3)) fun σ H Q h => two_imp (f := cmpD o) (fun _ => rfl) cop_two σ H Q h
/-- as a test -/
def toV (Q : Bool → Hp → Prop) : VK := fun v H => ∃ b, v = .bl b ∧ Q b H
theorem rE_of_rT {e : IE} {σ : L2.St} {H : Hp} {Q : Bool → Hp → Prop} (h : rT C Γ e σ H Q) : rE C Γ .fz e σ H (toV Q) := by
  obtain ⟨c, fs, env, so, sm, p⟩ := h
  refine ⟨c, fs, env, so, sm, p.imp fun d k v H1 s1 r1 => ?_⟩
  obtain ⟨b, rfl, q⟩ := k
  exact ⟨b, r1.bl, q H1 s1⟩
theorem rE_of_rT' {e : IE} {t : OT} {σ : L2.St} {H : Hp} {Q : Bool → Hp → Prop} (h : rT C Γ e σ H Q) : rE C Γ t e σ H (toV Q) := by
  obtain ⟨c, fs, env, so, sm, p⟩ := h
  refine ⟨c, fs, env, so, sm, p.imp fun d k v H1 s1 r1 => ?_⟩
  obtain ⟨b, rfl, q⟩ := k
  exact ⟨b, r1.bl, q H1 s1⟩
theorem sndT_cmp (F : XF G C N sc X) {o : COp} {op : CmpOp} {x y : Expr} {pos : Pos} {a b : IE} {ta tb : OT} (hop : copB o op = true) (ha : PE X x (rE C Γ ta a)) (hb : PE X y (rE C Γ tb b)) : PT X (.Compare x [op] [y] pos) (rT C Γ (.cmp o a b)) := by
  obtain ⟨h1, h2, h3⟩ := cop_ok (X := X) F.hu hop
  rw [F.K] at h1
  exact PT.imp (pt_cmpR h1 ha hb (nomark _ h2 h3)) fun σ H Q h => two_imp (f := cmpD o) (e := .cmp o a b) (fun _ => rfl) cop_two σ H _ (rE_of_rT h)
/-- x < y < z -/
theorem chain_imp {o p : COp} {a b c : IE} {ta tb tc : OT} (σ : L2.St) (H : Hp) (Q : VK) (h : rE C Γ .fz (.cmp2 o p a b c) σ H Q) :
    tChain (copR C.T.K o) (copR C.T.K p) (rE C Γ ta a) (rE C Γ tb b) (rE C Γ tc c) σ H Q := by
  obtain ⟨cf, fs, env, so, sm, q⟩ := h
  refine ⟨cf, fs, env, so, sm, (Pst.bind q).imp fun x px v H1 s1 r1 => ?_⟩
  refine ⟨cf, fs, env, so.mono s1, sm.mono s1, (Pst.bind px).imp fun y py w H2 s2 r2 => ?_⟩
  have rx := r1.later (so.mono s1) s2
  have ry := r2.same s1
  cases e : cmpD o x y with
  | ok d =>
    rw [e] at py
    refine cop_met so rx ry e fun k hk => ⟨k, rfl, ?_⟩
    subst hk
    cases k with
    | true =>
      rw [if_pos rfl]
      refine ⟨cf, fs, env, (so.mono s1).mono s2, (sm.mono s1).mono s2, (Pst.bind py).imp fun z pz u H3 s3 r3 => ?_⟩
      have ry' := (r2.same s1).later (so.mono s1 |>.mono s2) s3
      have rz := r3.same (s1.trans s2)
      cases e2 : cmpD p y z with
      | ok d2 =>
        rw [e2] at pz
        obtain ⟨b2, rfl⟩ := cmpD_bl e2
        exact cop_met so ry' rz e2 fun k hk => by cases hk; exact pz _ _ ((s1.trans s2).trans s3) .mkBl
      | ex k es => exact absurd e2 cmpD_ex
      | bad => rw [e2] at pz; exact pz.elim
    | false =>
      rw [if_neg Bool.false_ne_true]
      exact py _ _ (s1.trans s2) .mkBl
  | ex k es => exact absurd e cmpD_ex
  | bad => rw [e] at py; exact py.elim
theorem snd_cmp2 (F : XF G C N sc X) {o p : COp} {op op' : CmpOp} {x y z : Expr} {pos : Pos} {a b c : IE} {ta tb tc : OT} (hop : copB o op = true) (hop' : copB p op' = true) (ha : PE X x (rE C Γ ta a)) (hb : PE X y (rE C Γ tb b)) (hc : PE X z (rE C Γ tc c)) :
    PE X (.Compare x [op, op'] [y, z] pos) (rE C Γ .fz (.cmp2 o p a b c)) ∧ PT X (.Compare x [op, op'] [y, z] pos) (rT C Γ (.cmp2 o p a b c)) := by
  obtain ⟨h1, h2, h3⟩ := cop_ok (X := X) F.hu hop
  obtain ⟨g1, g2, g3⟩ := cop_ok (X := X) F.hu hop'
  rw [F.K] at h1 g1
  exact ⟨PE.imp (pe_chain h1 g1 ha hb hc (nomark _ g2 g3)) chain_imp, PT.imp (pt_chain h1 g1 ha hb hc (nomark _ g2 g3)) fun σ H Q h => chain_imp σ H _ (rE_of_rT h)⟩
/-- is None -/
theorem non_dec {T : Tb} {c : Cfg} {t : OT} {W : List Addr} {H H' : Hp} {v : V} {d : D} (r : RO T c t W H H' v d) : decide (v = .non) = (match d with | .non => true | _ => false) := by
  obtain ⟨f, _, _, o⟩ := r
  cases o with
  | fz r => cases r <;> rfl
  | ol _ _ => rfl
  | ot _ _ => rfl
  | oi _ _ _ => rfl
theorem snd_isN (F : XF G C N sc X) {x : Expr} {pos p' : Pos} {j : Nat} {a : IE} {ta : OT} (ha : PE X x (rE C Γ ta a)) : PE X (.Compare x [.Is] [.Constant .none j p'] pos) (rE C Γ .fz (.isN a)) ∧ PT X (.Compare x [.Is] [.Constant .none j p'] pos) (rT C Γ (.isN a)) := by
  have k : ∀ σ H Q, rE C Γ .fz (.isN a) σ H Q → tIsN (rE C Γ ta a) σ H Q := fun σ H Q h => by
    obtain ⟨c, fs, env, so, sm, p⟩ := h
    refine ⟨c, fs, env, so, sm, (Pst.bind p).imp fun x k v H1 s1 r1 => ?_⟩
    show Q (V.bl (decide (v = .non))) H1
    rw [non_dec r1]
    cases x <;> exact k _ _ s1 .mkBl
  exact ⟨PE.imp (pe_cmp (pc_isN ha) rfl) k, PT.imp (pt_cmp (pc_isN ha) rfl) fun σ H Q h => k σ H _ (rE_of_rT h)⟩
theorem snd_ntN (F : XF G C N sc X) {x : Expr} {pos p' : Pos} {j : Nat} {a : IE} {ta : OT} (ha : PE X x (rE C Γ ta a)) : PE X (.Compare x [.IsNot] [.Constant .none j p'] pos) (rE C Γ .fz (.ntN a)) ∧ PT X (.Compare x [.IsNot] [.Constant .none j p'] pos) (rT C Γ (.ntN a)) := by
  have k : ∀ σ H Q, rE C Γ .fz (.ntN a) σ H Q → tNotN (rE C Γ ta a) σ H Q := fun σ H Q h => by
    obtain ⟨c, fs, env, so, sm, p⟩ := h
    refine ⟨c, fs, env, so, sm, (Pst.bind p).imp fun x k v H1 s1 r1 => ?_⟩
    show Q (V.bl (!decide (v = .non))) H1
    rw [non_dec r1]
    cases x <;> exact k _ _ s1 .mkBl
  exact ⟨PE.imp (pe_cmp (pc_notN ha) rfl) k, PT.imp (pt_cmp (pc_notN ha) rfl) fun σ H Q h => k σ H _ (rE_of_rT h)⟩

/-! ### and, or, not, if-else -/
/-- a value may be asked for as any kind of holding that it has: what stands still -/
def conj (op : PySem.BoolOp) (a b : IE) : IE := match op with | .And => .and a b | .Or => .or a b
theorem conj_imp {op : PySem.BoolOp} {a b : IE} {ta : OT} (σ : L2.St) (H : Hp) (Q : VK) (h : rE C Γ .fz (conj op a b) σ H Q) :
    rE C Γ ta a σ H fun x H1 => ∃ c, x = .bl c ∧ if c = (op == .And) then rE C Γ .fz b σ H1 Q else Q (.bl c) H1 := by
  obtain ⟨c, fs, env, so, sm, p⟩ := h
  cases op with
  | And =>
    refine ⟨c, fs, env, so, sm, (Pst.bind p).imp fun x k v H1 s1 r1 => ?_⟩
    cases x with
    | bl y =>
      refine ⟨y, r1.bl, ?_⟩
      cases y with
      | true => exact ⟨c, fs, env, so.mono s1, sm.mono s1, Pst.imp k fun d k v H2 s2 r2 => k v H2 (s1.trans s2) (r2.same s1)⟩
      | false => exact k _ _ s1 .mkBl
    | _ => exact k.elim
  | Or =>
    refine ⟨c, fs, env, so, sm, (Pst.bind p).imp fun x k v H1 s1 r1 => ?_⟩
    cases x with
    | bl y =>
      refine ⟨y, r1.bl, ?_⟩
      cases y with
      | false => exact ⟨c, fs, env, so.mono s1, sm.mono s1, Pst.imp k fun d k v H2 s2 r2 => k v H2 (s1.trans s2) (r2.same s1)⟩
      | true => exact k _ _ s1 .mkBl
    | _ => exact k.elim
theorem snd_conj {op : PySem.BoolOp} {x y : Expr} {rest : List Expr} {pos : Pos} {a b : IE} {ta : OT} (ha : PE X x (rE C Γ ta a)) (hb : PE X (.BoolOp op (y :: rest) pos) (rE C Γ .fz b)) : PE X (.BoolOp op (x :: y :: rest) pos) (rE C Γ .fz (conj op a b)) := by
  cases op with
  | And =>
    refine PE.imp (pe_and ha hb) fun σ H Q h => ?_
    obtain ⟨c, fs, env, so, sm, p⟩ := conj_imp (op := .And) (ta := ta) σ H Q h
    exact ⟨c, fs, env, so, sm, p.imp fun d k v H1 s1 r1 => by
      obtain ⟨c, e, q⟩ := k v H1 s1 r1
      refine ⟨c, e, ?_⟩
      cases c <;> exact q⟩
  | Or =>
    refine PE.imp (pe_or ha hb) fun σ H Q h => ?_
    obtain ⟨c, fs, env, so, sm, p⟩ := conj_imp (op := .Or) (ta := ta) σ H Q h
    exact ⟨c, fs, env, so, sm, p.imp fun d k v H1 s1 r1 => by
      obtain ⟨c, e, q⟩ := k v H1 s1 r1
      refine ⟨c, e, ?_⟩
      cases c <;> exact q⟩
theorem conjT_imp {op : PySem.BoolOp} {a b : IE} (σ : L2.St) (H : Hp) (Q : Bool → Hp → Prop) (h : rT C Γ (conj op a b) σ H Q) :
    rT C Γ a σ H fun c H1 => if c = (op == .And) then rT C Γ b σ H1 Q else Q c H1 := by
  obtain ⟨c, fs, env, so, sm, p⟩ := h
  cases op with
  | And =>
    refine ⟨c, fs, env, so, sm, (Pst.bind p).imp fun x k => ?_⟩
    cases x with
    | bl y =>
      refine ⟨y, rfl, fun H1 s1 => ?_⟩
      cases y with
      | true => exact ⟨c, fs, env, so.mono s1, sm.mono s1, Pst.imp k fun d ⟨b, e, q⟩ => ⟨b, e, fun H2 s2 => q H2 (s1.trans s2)⟩⟩
      | false =>
        obtain ⟨b, e, q⟩ := k
        cases e
        exact q H1 s1
    | _ => exact k.elim
  | Or =>
    refine ⟨c, fs, env, so, sm, (Pst.bind p).imp fun x k => ?_⟩
    cases x with
    | bl y =>
      refine ⟨y, rfl, fun H1 s1 => ?_⟩
      cases y with
      | false => exact ⟨c, fs, env, so.mono s1, sm.mono s1, Pst.imp k fun d ⟨b, e, q⟩ => ⟨b, e, fun H2 s2 => q H2 (s1.trans s2)⟩⟩
      | true =>
        obtain ⟨b, e, q⟩ := k
        cases e
        exact q H1 s1
    | _ => exact k.elim
theorem sndW_one {op : PySem.BoolOp} {x : Expr} {pos : Pos} {a : IE} (ha : PT X x (rT C Γ a)) : PW X (.BoolOp op [x] pos) (rT C Γ a) := by
  cases op with
  | And => exact pw_and1 ha
  | Or => exact pw_or1 ha
theorem rT_imp {e : IE} {σ : L2.St} {H : Hp} {Q Q' : Bool → Hp → Prop} (h : rT C Γ e σ H Q) (i : ∀ b H', Q b H' → Q' b H') : rT C Γ e σ H Q' := by
  obtain ⟨c, fs, env, so, sm, p⟩ := h
  exact ⟨c, fs, env, so, sm, p.imp fun d ⟨b, e, q⟩ => ⟨b, e, fun H2 s2 => i _ _ (q H2 s2)⟩⟩
theorem sndW_conj {op : PySem.BoolOp} {x y : Expr} {rest : List Expr} {pos : Pos} {a b : IE} (ha : PT X x (rT C Γ a)) (hb : PW X (.BoolOp op (y :: rest) pos) (rT C Γ b)) : PW X (.BoolOp op (x :: y :: rest) pos) (rT C Γ (conj op a b)) := by
  cases op with
  | And => exact PW.imp (pw_and ha hb) fun σ H Q h => rT_imp (conjT_imp (op := .And) σ H Q h) fun c H1 q => by cases c <;> exact q
  | Or => exact PW.imp (pw_or ha hb) fun σ H Q h => rT_imp (conjT_imp (op := .Or) σ H Q h) fun c H1 q => by cases c <;> exact q
theorem snd_not {x : Expr} {pos : Pos} {a : IE} {ta : OT} (ha : PE X x (rE C Γ ta a)) : PE X (.UnaryOp .Not x pos) (rE C Γ .fz (.not a)) :=
  PE.imp (pe_not ha) fun σ H Q h => by
    obtain ⟨c, fs, env, so, sm, p⟩ := h
    refine ⟨c, fs, env, so, sm, (Pst.bind p).imp fun x k v H1 s1 r1 => ?_⟩
    cases x with
    | bl y => exact ⟨y, r1.bl, k _ _ s1 .mkBl⟩
    | _ => exact k.elim
theorem sndT_not {x : Expr} {pos : Pos} {a : IE} (ha : PT X x (rT C Γ a)) : PT X (.UnaryOp .Not x pos) (rT C Γ (.not a)) :=
  PT.imp (pt_not ha) fun σ H Q h => by
    obtain ⟨c, fs, env, so, sm, p⟩ := h
    refine ⟨c, fs, env, so, sm, (Pst.bind p).imp fun x k => ?_⟩
    cases x with
    | bl y =>
      obtain ⟨b, e, q⟩ := k
      cases e
      exact ⟨y, rfl, q⟩
    | _ => exact k.elim
theorem snd_ife {x y z : Expr} {pos : Pos} {c a b : IE} {ta tb : OT} (hc : PT X z (rT C Γ c)) (ha : PE X x (rE C Γ ta a)) (hb : PE X y (rE C Γ tb b)) : PE X (.IfExp z x y pos) (rE C Γ .fz (.ife c a b)) :=
  PE.imp (pe_ifExp hc ha hb) fun σ H Q h => by
    obtain ⟨cf, fs, env, so, sm, p⟩ := h
    refine ⟨cf, fs, env, so, sm, (Pst.bind p).imp fun x k => ?_⟩
    cases x with
    | bl y =>
      refine ⟨y, rfl, fun H1 s1 => ?_⟩
      cases y with
      | true =>
        rw [if_pos rfl]
        exact ⟨cf, fs, env, so.mono s1, sm.mono s1, Pst.imp k fun d k v H2 s2 r2 => k v H2 (s1.trans s2) ((r2.fz (so.mono s1)).same s1)⟩
      | false =>
        rw [if_neg Bool.false_ne_true]
        exact ⟨cf, fs, env, so.mono s1, sm.mono s1, Pst.imp k fun d k v H2 s2 r2 => k v H2 (s1.trans s2) ((r2.fz (so.mono s1)).same s1)⟩
    | _ => exact k.elim
/-- an expression whose test is its value's truth -/
def valB : Expr → Bool
  | .UnaryOp .Not _ _ => false
  | .BoolOp .. => false
  | .IfExp .. => false
  | .Compare .. => false
  | _ => true
theorem isTrue_val {e : Expr} {env : PySem.Env} (h : valB e = true) (whole : Sem Value) : isTrue e env whole = (do let v ← whole; standAt e.pos; holding [v] (truthy v)) := by
  cases e with
  | UnaryOp o x p => cases o <;> first | rfl | cases h
  | BoolOp _ _ _ => cases h
  | IfExp _ _ _ _ => cases h
  | Compare _ _ _ _ => cases h
  | _ => rfl
theorem sndT_val {x : Expr} {a : IE} {ta : OT} (hv : valB x = true) (ha : PE X x (rE C Γ ta a)) : PT X x (rT C Γ a) :=
  PT.imp (pt_val ha (isTrue_val hv)) fun σ H Q h => rE_of_rT' h

/-! ### argument lists, displays -/
theorem star_plain {e : Expr} (h : plainX e = true) (es : List Expr) (env : PySem.Env) : starEach (e :: es) env = (false, eval e env) :: starEach es env := by
  cases e <;> first | rfl | cases h
theorem sndA_nil : PA X [] (rA C Γ [] .nil) := PA.imp pa_nil fun σ H Q h => by
  obtain ⟨c, fs, env, so, sm, p⟩ := h
  exact p [] [] H rfl (Same.refl H) ⟨[], List.nodup_nil, (fun a h => by cases h), .nil⟩
theorem SO.hide {T : Tb} {c : Cfg} {fs : List (List Addr)} {H H1 : Hp} {σ : L2.St} {env : Env} {f : List Addr} (so : SO T c Γ fs H σ env) (s : Same H H1) (nw : New H f) (hd : ∀ a ∈ f, H1 a ≠ none) :
    SO T { c with U := fun a => c.U a ∨ a ∈ f } Γ fs H1 σ env where
  sl := so.sl.mono (msk_mono s fun a q => q.elim (fun z => z.elim (fun z => .inl (.inl z)) fun z => .inr (nw a z)) fun z => .inl (.inr z)) fun a _ o h => s a o h
  nd := so.nd
  fr := so.fr
  un := fun a ha q => q.elim (so.un a ha) fun z => so.dom a ha (nw a z)
  dm := fun a q => q.elim (fun z => Same.some s (so.dm a z)) (hd a)
  sm := fun a o h k => s a o (so.sm a o h k)
theorem sndA_cons {x : Expr} {xs : List Expr} {e a : IE} {t : OT} {ts : List OT} (hp : plainX x = true) (ha : PE X x (rE C Γ t e)) (hr : PA X xs (rA C Γ ts a)) : PA X (x :: xs) (rA C Γ (t :: ts) (.cons e a)) :=
  PA.imp (pa_cons ha hr (star_plain hp _ _)) fun σ H Q h => by
    obtain ⟨c, fs, env, so, sm, p⟩ := h
    refine ⟨c, fs, env, so, sm, (Pst.cons p).imp fun d k v H1 s1 r1 => ?_⟩
    obtain ⟨f1, n1, w1, o1⟩ := r1
    have d1 := o1.dom
    refine ⟨{ c with U := fun a => c.U a ∨ a ∈ f1 }, fs, env, so.hide s1 w1 d1, sm.mono s1, Pst.imp k fun d' k ds vs H2 e s2 r2 => ?_⟩
    subst e
    obtain ⟨ds', e, q⟩ := k
    cases e
    refine q (d :: ds) (v :: vs) H2 rfl (s1.trans s2) ?_
    obtain ⟨f2, n2, w2, o2⟩ := r2
    refine ⟨f1 ++ f2, List.nodup_append.mpr ⟨n1, n2, fun a ha b hb e => by subst e; exact d1 a ha (w2 a hb)⟩, fun a ha => (List.mem_append.mp ha).elim (w1 a) fun z => s1.free (w2 a z), .cons (o1.mono (msk_mono s2 fun a z => ?_) fun a ha o h => s2 a o h) (o2.mono (msk_mono (Same.refl _) fun a z => .inl ?_) fun a ha o h => h)⟩
    · rcases z with z | z
      · exact .inl (.inl z)
      · rcases List.mem_append.mp z with z | z
        · exact .inl (.inr (List.mem_append_left _ z))
        · rcases List.mem_append.mp z with z | z
          · exact .inl (.inr (List.mem_append_right _ z))
          · exact .inr (w2 a z)
    · rcases z with z | z
      · exact .inl (.inl z)
      · rcases List.mem_append.mp z with z | z
        · exact .inr (List.mem_append_left _ z)
        · rcases List.mem_append.mp z with z | z
          · exact .inl (.inr z)
          · exact .inr (List.mem_append_right _ z)
theorem snd_ls {xs : List Expr} {pos : Pos} {as : IE} {ts : List OT} (ha : PA X xs (rA C Γ ts as)) : PE X (.List xs pos) (rE C Γ (.ol .fz) (.ls as)) :=
  PE.imp (pe_lst ha) fun σ H Q h => by
    obtain ⟨c, fs, env, so, sm, p⟩ := h
    refine ⟨c, fs, env, so, sm, (Pst.arg p).imp fun d k ds vs H1 e s1 r1 => ?_⟩
    subst e
    obtain ⟨ds', e, q⟩ := k
    cases e
    unfold mkL at q
    split at q
    · rename_i hl
      have ra := r1.rep so
      exact ⟨by rw [ra.length]; exact Nat.le_trans hl lim_le, fun p np => q _ _ (s1.trans (same_upd np)) (.mkL (so.mono s1) s1 np ra)⟩
    · exact q.elim
theorem snd_tp {xs : List Expr} {pos : Pos} {k : Nat} {as : IE} {ts : List OT} (ha : PA X xs (rA C Γ ts as)) : PE X (.Tuple xs k pos) (rE C Γ (.ot ts) (.tp as)) :=
  PE.imp (pe_tup ha) fun σ H Q h => by
    obtain ⟨c, fs, env, so, sm, p⟩ := h
    refine ⟨c, fs, env, so, sm, (Pst.arg p).imp fun d k ds vs H1 e s1 r1 => ?_⟩
    subst e
    obtain ⟨ds', e, q⟩ := k
    cases e
    unfold mkT at q
    split at q
    · rename_i hl
      have ra := r1.rep so
      exact ⟨by rw [ra.length]; exact Nat.le_trans hl lim_le, fun p np => q _ _ (s1.trans (same_upd np)) (.mkO so s1 np r1)⟩
    · exact q.elim

/-! ### calls -/
theorem back_plain {pos : Pos} : ∀ {es : List Expr} {env : PySem.Env}, (es.all plainX) = true → (backTo pos (starEach es env)).any (·.1) = false := by
  intro es env h
  have key : ∀ es : List Expr, es.all plainX = true → ∀ p ∈ starEach es env, p.1 = false := fun es => by
    induction es with
    | nil => intro _ p hp; cases hp
    | cons x xs ih =>
      intro h p hp
      simp only [List.all_cons, Bool.and_eq_true] at h
      rw [star_plain h.1] at hp
      rcases List.mem_cons.mp hp with e | hp
      · rw [e]
      · exact ih h.2 p hp
  unfold backTo
  rw [List.any_map, List.any_eq_false]
  intro p hp
  have := key es h p hp
  obtain ⟨b, t⟩ := p
  simpa using this
theorem chkA_plain {as : IE} : ∀ {es : List Expr}, chkA G N sc as es = true → es.all plainX = true := by
  intro es
  induction es generalizing as with
  | nil => intro _; rfl
  | cons x xs ih =>
    intro h
    cases as with
    | cons e a =>
      simp only [chkA, Bool.and_eq_true] at h
      simp only [List.all_cons, Bool.and_eq_true]
      exact ⟨h.1.1, ih h.2⟩
    | _ => simp [chkA] at h
theorem tail_plain {e : Expr} {es : List Expr} (h : (e :: es).all plainX = true) : plainX e = true ∧ es.all plainX = true := by
  simpa only [List.all_cons, Bool.and_eq_true] using h
/-- a def's call -/
theorem call_imp (F : XF G C N sc X) {j : Nat} {as : IE} {ts : List OT} {ps : List Str} (har : ∀ ds, C.S j ds ≠ .bad → ds.length = ps.length) (σ : L2.St) (H : Hp) (Q : VK) (h : rE C Γ ((G.rt[j]?).getD .fz) (.call j as) σ H Q) :
    rA C Γ ts as σ H fun vs H1 => spS C.T C.S ((G.rt[j]?).getD .fz) ps.length j (vs ++ []) H1 Q (EXK C) := by
  obtain ⟨c, fs, env, so, sm, q⟩ := h
  refine ⟨c, fs, env, so, sm, (Pst.arg q).imp fun d k ds vs H1 e s1 r1 => ?_⟩
  subst e
  obtain ⟨ds', e, q⟩ := k
  cases e
  have ra := r1.rep so
  have so1 := so.mono s1
  rw [List.append_nil]
  refine ⟨fun a => c.U a ∨ a ∈ fs.flatten, ds, fun a u => u.elim (so1.dm a) (so1.dom a), ra, ?_, ?_⟩
  · rw [ra.length]
    exact har ds fun e => by rw [e] at q; exact q
  · cases e : C.S j ds with
    | ok d =>
      rw [e] at q
      refine fun v H2 f s2 nf nw o => q v H2 (s1.trans s2) ⟨f, nf, fun a ha => s1.free (nw a ha), o.mono (msk_mono (Same.refl _) fun a z => .inl ?_) fun a _ o h => h⟩
      rcases z with z | z
      · exact .inl (.inl z)
      · exact (List.mem_append.mp z).elim (fun z => .inl (.inr z)) .inr
    | ex k es =>
      rw [e] at q
      exact fun cl dx H2 s2 x => ⟨k, es, x, (sm.mono s1).mono s2, q⟩
    | bad => rw [e] at q; exact q
theorem snd_call (F : XF G C N sc X) {j : Nat} {x : Str} {p pos : Pos} {e : Expr} {es : List Expr} {as : IE} {ts : List OT} (hn : j < G.lv) (hj : G.fn[j]? = some x) (hg : glB sc x = true) (ok : okN x = true) (hp : (e :: es).all plainX = true) (ha : PA X (e :: es) (rA C Γ ts as)) :
    PE X (.Call (.Name x p) (e :: es) [] pos) (rE C Γ ((G.rt[j]?).getD .fz) (.call j as)) := by
  obtain ⟨o1, o2, o3⟩ := okN_of ok
  obtain ⟨f, fd, ps, hps, hm, hk, hb, har, FO⟩ := F.ff.fn j x hn hj
  have hr : Room (j + 1) X.A := F.room.mono hn
  have hx : Passes (L2.CX X.prog X.w) X (EXK C) := F.hx
  rw [← F.K] at hk hb FO
  obtain ⟨p1, p2⟩ := tail_plain hp
  exact PE.imp (pe_call FO hr (F.gl hg) hm hk hb .nil hx ha o1 (star_plain p1 _ _) (back_plain p2)) (call_imp F har)
theorem snd_call0 (F : XF G C N sc X) {j : Nat} {x : Str} {p pos : Pos} (hn : j < G.lv) (hj : G.fn[j]? = some x) (hg : glB sc x = true) (ok : okN x = true) :
    PE X (.Call (.Name x p) [] [] pos) (rE C Γ ((G.rt[j]?).getD .fz) (.call j .nil)) := by
  obtain ⟨o1, o2, o3⟩ := okN_of ok
  obtain ⟨f, fd, ps, hps, hm, hk, hb, har, FO⟩ := F.ff.fn j x hn hj
  have hr : Room (j + 1) X.A := F.room.mono hn
  have hx : Passes (L2.CX X.prog X.w) X (EXK C) := F.hx
  rw [← F.K] at hk hb FO
  refine PE.imp (pe_call0 FO hr (F.gl hg) hm hk hb .nil hx o1) fun σ H Q h => ?_
  obtain ⟨c, fs, env, so, sm, q⟩ := call_imp (ts := []) F har σ H Q h
  exact q [] [] H rfl (Same.refl H) ⟨[], List.nodup_nil, (fun a h => by cases h), .nil⟩

/-! ### built-in calls -/
def bltR (K : PySem.W.Frag) : Blt → List V → Hp → VK → Prop
  | .len => fun xs H Q => ∃ p ys, xs = [.ref p] ∧ (SqL K H p ys ∨ SqT K H p ys) ∧ Q (.int ys.length) H
  | .abs => fun xs H Q => ∃ i, xs = [.int i] ∧ Q (.int (if i < 0 then -i else i)) H
  | .int => fun xs H Q => (∃ i, xs = [.int i] ∧ Q (.int i) H) ∨ ∃ k, xs = [.bl k] ∧ Q (.int (if k then 1 else 0)) H
  | .min => fun xs H Q => ∃ i j, xs = [.int i, .int j] ∧ Q (.int (if j < i then j else i)) H
  | .max => fun xs H Q => ∃ i j, xs = [.int i, .int j] ∧ Q (.int (if j > i then j else i)) H
  | .list => fun xs H Q => ∃ p ys, xs = [.ref p] ∧ (SqL K H p ys ∨ SqT K H p ys) ∧ ∀ l, H l = none → Q (.ref l) (upd H l (.lst ys))
  | .tuple => fun xs H Q => ∃ p ys, xs = [.ref p] ∧ ((SqL K H p ys ∧ ∀ l, H l = none → Q (.ref l) (upd H l (.tup ys))) ∨ (SqT K H p ys ∧ Q (.ref p) H))
  | .gcd => rGcd
  | _ => fun _ _ _ => False
def bltT : Blt → OT
  | .list => .ol .fz
  | _ => .fz
/-- what a built-in asks is met -/
theorem blt_met {b : Blt} {ts : List OT} (σ : L2.St) {as : IE} (H : Hp) (Q : VK) (ht : typN b = none) (h : rE C Γ (bltT b) (.blt b as) σ H Q) : tCB (bltR C.T.K b) (rA C Γ ts as) σ H Q := by
  obtain ⟨c, fs, env, so, sm, q⟩ := h
  refine ⟨c, fs, env, so, sm, (Pst.arg q).imp fun d k ds vs H1 e s1 r1 => ?_⟩
  subst e
  obtain ⟨ds', e, q⟩ := k
  cases e
  have ra := r1.rep so
  have so1 := so.mono s1
  cases b with
  | len =>
    cases ra with
    | nil => exact q.elim
    | cons r t =>
      cases t with
      | cons _ _ => cases r <;> exact q.elim
      | nil =>
        cases r with
        | lst hv a =>
          refine ⟨_, _, rfl, .inl (.of (msk_some.mp hv).2), ?_⟩
          rw [a.length]
          exact q _ _ s1 .mkInt
        | tup hv a =>
          refine ⟨_, _, rfl, .inr (seqT msk_same hv), ?_⟩
          rw [a.length]
          exact q _ _ s1 .mkInt
        | @scr a ns hv =>
          refine ⟨_, _, rfl, .inl (msk_same.seq hv), ?_⟩
          rw [List.length_map]
          exact q _ _ s1 .mkInt
        | _ => exact q.elim
  | abs =>
    cases ra with
    | nil => exact q.elim
    | cons r t =>
      cases t with
      | cons _ _ => cases r <;> exact q.elim
      | nil =>
        cases r with
        | int i => exact ⟨i, rfl, q _ _ s1 .mkInt⟩
        | _ => exact q.elim
  | int =>
    cases ra with
    | nil => exact q.elim
    | cons r t =>
      cases t with
      | cons _ _ => cases r <;> exact q.elim
      | nil =>
        cases r with
        | int i => exact .inl ⟨i, rfl, q _ _ s1 .mkInt⟩
        | _ => exact q.elim
  | min =>
    cases ra with
    | nil => exact q.elim
    | cons r t =>
      cases t with
      | nil => cases r <;> exact q.elim
      | cons r' t' =>
        cases t' with
        | cons _ _ => cases r <;> first | exact q.elim | (cases r' <;> exact q.elim)
        | nil =>
          cases r with
          | int i =>
            cases r' with
            | int j => exact ⟨i, j, rfl, q _ _ s1 .mkInt⟩
            | _ => exact q.elim
          | _ => exact q.elim
  | max =>
    cases ra with
    | nil => exact q.elim
    | cons r t =>
      cases t with
      | nil => cases r <;> exact q.elim
      | cons r' t' =>
        cases t' with
        | cons _ _ => cases r <;> first | exact q.elim | (cases r' <;> exact q.elim)
        | nil =>
          cases r with
          | int i =>
            cases r' with
            | int j => exact ⟨i, j, rfl, q _ _ s1 .mkInt⟩
            | _ => exact q.elim
          | _ => exact q.elim
  | gcd =>
    cases ra with
    | nil => exact q.elim
    | cons r t =>
      cases t with
      | nil => cases r <;> exact q.elim
      | cons r' t' =>
        cases t' with
        | cons _ _ => cases r <;> first | exact q.elim | (cases r' <;> exact q.elim)
        | nil =>
          cases r with
          | int i =>
            cases r' with
            | int j => exact ⟨i, j, rfl, q _ _ s1 .mkInt⟩
            | _ => exact q.elim
          | _ => exact q.elim
  | list =>
    cases ra with
    | nil => exact q.elim
    | cons r t =>
      cases t with
      | cons _ _ => cases r <;> exact q.elim
      | nil =>
        cases r with
        | lst hv a => exact ⟨_, _, rfl, .inl (.of (msk_some.mp hv).2), fun l nl => q _ _ (s1.trans (same_upd nl)) (.mkL so1 s1 nl a)⟩
        | tup hv a => exact ⟨_, _, rfl, .inr (seqT msk_same hv), fun l nl => q _ _ (s1.trans (same_upd nl)) (.mkL so1 s1 nl a)⟩
        | @scr a ns hv => exact ⟨_, _, rfl, .inl (msk_same.seq hv), fun l nl => q _ _ (s1.trans (same_upd nl)) (.mkL so1 s1 nl (.of_ints ns))⟩
        | _ => exact q.elim
  | tuple =>
    cases ra with
    | nil => exact q.elim
    | cons r t =>
      cases t with
      | cons _ _ => cases r <;> exact q.elim
      | nil =>
        cases r with
        | lst hv a => exact ⟨_, _, rfl, .inl ⟨.of (msk_some.mp hv).2, fun l nl => q _ _ (s1.trans (same_upd nl)) (.mkT so1 nl a)⟩⟩
        | tup hv a => exact ⟨_, _, rfl, .inr ⟨seqT msk_same hv, q _ _ s1 (.of_rep (.tup hv a))⟩⟩
        | _ => exact q.elim
  | _ => cases ht
theorem bltT_of (b : Blt) (as : IE) : tyE G Γ (.blt b as) = bltT b := by cases b <;> rfl
theorem snd_blt (F : XF G C N sc X) {b : Blt} {x y : Str} {p pos : Pos} {e : Expr} {es : List Expr} {as : IE} {ts : List OT} (hb : bltN b = some y) (hxy : x = y) (hg : glB sc x = true) (hin : x ∈ G.bl) (hp : (e :: es).all plainX = true) (ha : PA X (e :: es) (rA C Γ ts as)) :
    PE X (.Call (.Name x p) (e :: es) [] pos) (rE C Γ (bltT b) (.blt b as)) := by
  obtain ⟨p1, p2⟩ := tail_plain hp
  have hm := F.ff.bl _ hin
  have hG := F.gl hg
  cases b <;> first
    | (cases hb; done)
    | (cases hb
       subst hxy
       refine PE.imp ?_ fun σ H Q h => blt_met (ts := ts) σ H Q rfl h
       rw [← F.K]
       first
         | exact pe_callB call_len_seq hG hm PySem.boot_len ha (by decide) (by decide) (star_plain p1 _ _) (back_plain p2)
         | exact pe_callB call_abs hG hm PyProof.Rows.boot_abs ha (by decide) (by decide) (star_plain p1 _ _) (back_plain p2)
         | exact pe_callB (call_min2 F.calm) hG hm (by decide +kernel) ha (by decide) (by decide) (star_plain p1 _ _) (back_plain p2)
         | exact pe_callB (call_max2 F.calm) hG hm (by decide +kernel) ha (by decide) (by decide) (star_plain p1 _ _) (back_plain p2)
         | exact pe_callTy call_int1 hG hm (by decide +kernel) ha (by decide) (by decide) (star_plain p1 _ _) (back_plain p2)
         | exact pe_callTy call_list_of hG hm (by decide +kernel) ha (by decide) (by decide) (star_plain p1 _ _) (back_plain p2)
         | exact pe_callTy call_tuple_of hG hm (by decide +kernel) ha (by decide) (by decide) (star_plain p1 _ _) (back_plain p2))
theorem snd_gcd (F : XF G C N sc X) {p pos : Pos} {e : Expr} {es : List Expr} {as : IE} {ts : List OT} (hc : G.gc = true) (hg : glB sc "gcd" = true) (hp : (e :: es).all plainX = true) (ha : PA X (e :: es) (rA C Γ ts as)) :
    PE X (.Call (.Name "gcd" p) (e :: es) [] pos) (rE C Γ .fz (.blt .gcd as)) := by
  obtain ⟨p1, p2⟩ := tail_plain hp
  refine PE.imp ?_ fun σ H Q h => blt_met (b := .gcd) (ts := ts) σ H Q rfl h
  exact pe_callBfun cr_gcd (F.gl hg) (F.ff.gc hc) ha (by decide) (star_plain p1 _ _) (back_plain p2)
end
end Pv

/-! Pv, part H: isinstance, subscripts, slices, what is gone through, targets. -/
namespace Pv
open PySem PySem.Spec PyProof.Rows L2
section
variable {G : Gt} {C : Ct} {N : List Str} {sc : Scope} {X : Cx} {Γ : List OT}

/-! ### isinstance -/
theorem sqT_ty {K : PySem.W.Frag} {H : Hp} {a : Addr} {xs : List V} (h : SqT K H a xs) : TyX K H (.ref a) (.type "tuple") := by
  rcases h with (h | ⟨o, h⟩) | ⟨o, its, n, h, c, _⟩
  · exact .base (.tup h)
  · exact .fTuple h
  · exact .kTuple h c
theorem isi_met {b : Blt} {tn : String} {d : D} {k : Bool} {A : Hp} {v : V} (hb : typN b = some tn) (e : bltD b [d] = .ok (.bl k)) (r : Rep C.T A v d) : ∃ t, TyX C.T.K A v t ∧ PySem.W.kitOne C.T.K t (.type tn) = some k := by
  cases b <;> first
    | (cases hb; done)
    | (cases hb
       cases r <;> first
         | (cases e; done)
         | (cases e; exact ⟨_, .base .non, kit_ty (by decide +kernel)⟩)
         | (cases e; exact ⟨_, .base (.bl _), kit_ty (by decide +kernel)⟩)
         | (cases e; exact ⟨_, .base (.int _), kit_ty (by decide +kernel)⟩)
         | (cases e; exact ⟨_, .base (.str _), kit_ty (by decide +kernel)⟩)
         | (cases e; rename_i hv _; exact ⟨_, .base (.lst hv), kit_ty (by decide +kernel)⟩)
         | (cases e; rename_i hv _; exact ⟨_, sqT_ty hv, kit_ty (by decide +kernel)⟩))
theorem isi_ex {b : Blt} {ds : List D} {tn : String} (hb : typN b = some tn) : (∀ k es, bltD b ds ≠ .ex k es) ∧ ∀ d, bltD b ds = .ok d → ∃ x k, ds = [x] ∧ d = .bl k := by
  cases b <;> first
    | (cases hb; done)
    | (cases ds with
       | nil => exact ⟨fun k es z => (nomatch z), fun d z => (nomatch z)⟩
       | cons x r =>
         cases r with
         | nil => cases x <;> exact ⟨fun k es z => (by cases z), fun d z => (by cases z <;> exact ⟨_, _, rfl, rfl⟩)⟩
         | cons y r => cases x <;> exact ⟨fun k es z => (by cases z), fun d z => (by cases z)⟩)
theorem ty_boot {b : Blt} {tn : String} (h : typN b = some tn) : bootBuiltins (Str.ofString tn) = some (.type tn) := by
  cases b <;> first | (cases h; done) | (cases h; decide +kernel)
theorem ty_name {b : Blt} {tn : String} (h : typN b = some tn) : Str.ofString tn ≠ "__name__" ∧ (Str.ofString tn == ("__debug__" : Str)) = false := by
  cases b <;> first | (cases h; done) | (cases h; exact ⟨by decide, by decide⟩)
theorem snd_isi (F : XF G C N sc X) {b : Blt} {tn : String} {e : Expr} {a : IE} {t : OT} {p p' pos : Pos} (hb : typN b = some tn) (hg : glB sc "isinstance" = true) (hin : ("isinstance" : Str) ∈ G.bl) (hg' : glB sc (Str.ofString tn) = true) (hin' : Str.ofString tn ∈ G.bl)
    (hp : plainX e = true) (ha : PE X e (rE C Γ t a)) : PE X (.Call (.Name "isinstance" p) [e, .Name (Str.ofString tn) p'] [] pos) (rE C Γ .fz (.blt b (.cons a .nil))) := by
  have ht : PE X (.Name (Str.ofString tn) p') (tC (.ty tn)) := pe_bltn (F.gl hg') (F.ff.bl _ hin') (ty_boot hb) rfl (ty_name hb).1 (ty_name hb).2
  refine PE.imp (pe_callB call_isi (F.gl hg) (F.ff.bl _ hin) (by decide +kernel) (pa_cons ha (pa_cons ht pa_nil) (star_plain hp _ _)) (by decide) (by decide) (star_plain hp _ _) (back_plain (by rfl))) fun σ H Q h => ?_
  obtain ⟨c, fs, env, so, sm, q⟩ := h
  refine ⟨c, fs, env, so, sm, Pst.imp (Pst.cons (Pst.arg q)) fun d k v H1 s1 r1 => ?_⟩
  obtain ⟨ds, e1, ds', e2, q⟩ := (show ∃ ds, D.tup [] = D.tup ds ∧ ∃ ds', D.tup (d :: ds) = D.tup ds' ∧ Pst C.EX (fun d => ∀ v H', Same H H' → RO C.T c .fz fs.flatten H H' v d → Q v H') (bltD b ds') from k)
  cases e1
  cases e2
  obtain ⟨n1, n2⟩ := isi_ex (b := b) (ds := [d]) hb
  cases e : bltD b [d] with
  | ok d2 =>
    obtain ⟨x, k, e1, e2⟩ := n2 _ e
    subst e2
    rw [e] at q
    obtain ⟨tt, h1, h2⟩ := isi_met hb e ((r1.rep so).mono msk_same)
    exact ⟨v, .ty tn, tt, .type tn, k, rfl, .ty tn, by rw [F.K]; exact h1, by rw [F.K]; exact h2, q _ _ s1 .mkBl⟩
  | ex k es => exact absurd e (n1 k es)
  | bad => rw [e] at q; exact q.elim

/-! ### subscripts, slices -/
theorem atD_some {ds : List D} {i : Int} {d : D} (h : atD ds i = .ok d) : ∃ j, ixN ds.length i = some j ∧ ds[j]? = some d := by
  unfold atD at h
  have e : (ixn ds.length i) = ixN ds.length i := rfl
  rw [e] at h
  cases e1 : ixN ds.length i with
  | none => rw [e1] at h; cases h
  | some j =>
    rw [e1] at h
    refine ⟨j, rfl, ?_⟩
    have h' : (match ds[j]? with | some d => R.ok d | none => R.bad) = .ok d := h
    cases e2 : ds[j]? with
    | none => rw [e2] at h'; cases h'
    | some x => rw [e2] at h'; cases h'; rfl
theorem atD_ex {ds : List D} {i : Int} {k : Str} {es : List D} : atD ds i ≠ .ex k es := fun h => by
  unfold atD at h
  split at h <;> cases h
theorem ixD_ex {x y : D} {k : Str} {es : List D} : ixD x y ≠ .ex k es := fun h => by
  cases x <;> first | (cases h; done) | (cases y <;> first | (cases h; done) | exact atD_ex h)
theorem rep_at {T : Tb} {H : Hp} {vs : List V} {ds : List D} {i : Int} {d : D} (r : RepA T H vs ds) (h : atD ds i = .ok d) : ∃ v, atI vs i = some v ∧ Rep T H v d := by
  obtain ⟨j, h1, h2⟩ := atD_some h
  obtain ⟨v, g1, g2⟩ := r.get h2
  refine ⟨v, ?_, g2⟩
  unfold atI
  rw [r.length, h1]
  exact g1
theorem ix_met {ta tb : OT} (H : Hp) (v w : V) (H2 : Hp) (Q : VK) (h : Two C Γ ta tb .fz ixD Q H v w H2) : rIx C.T.K v w H2 Q := by
  obtain ⟨c, fs, env, σ, x, y, so0, so, sm, s, rx, ry, p⟩ := h
  have r := rx.rep so0
  cases r with
  | lst hv a =>
    cases y with
    | int i =>
      cases e : atD _ i with
      | ok d =>
        obtain ⟨u, g1, g2⟩ := rep_at a e
        have p' : Pst C.EX _ (atD _ i) := p
        rw [e] at p'
        exact .inl ⟨_, _, i, u, rfl, ry.int, .of (msk_some.mp hv).2, g1, p' _ _ (Same.refl _) (.of_rep g2)⟩
      | ex k es => exact absurd e atD_ex
      | bad =>
        have p' : Pst C.EX _ (atD _ i) := p
        rw [e] at p'
        exact p'.elim
    | _ => exact p.elim
  | tup hv a =>
    cases y with
    | int i =>
      cases e : atD _ i with
      | ok d =>
        obtain ⟨u, g1, g2⟩ := rep_at a e
        have p' : Pst C.EX _ (atD _ i) := p
        rw [e] at p'
        exact .inr (.inl ⟨_, _, i, u, rfl, ry.int, seqT msk_same hv, g1, p' _ _ (Same.refl _) (.of_rep g2)⟩)
      | ex k es => exact absurd e atD_ex
      | bad =>
        have p' : Pst C.EX _ (atD _ i) := p
        rw [e] at p'
        exact p'.elim
    | _ => exact p.elim
  | @scr a ns hv =>
    cases y with
    | int i =>
      cases e : atD (ns.map D.int) i with
      | ok d =>
        obtain ⟨u, g1, g2⟩ := rep_at (.of_ints ns) e
        have p' : Pst C.EX _ (atD (ns.map D.int) i) := p
        rw [e] at p'
        exact .inl ⟨_, _, i, u, rfl, ry.int, msk_same.seq hv, g1, p' _ _ (Same.refl _) (.of_rep g2)⟩
      | ex k es => exact absurd e atD_ex
      | bad =>
        have p' : Pst C.EX _ (atD (ns.map D.int) i) := p
        rw [e] at p'
        exact p'.elim
    | _ => exact p.elim
  | _ => exact p.elim
theorem plain_ix {b : Expr} (h : noSl b = true) : PlainIx b := fun o i => by
  cases b <;> first | rfl | cases h
theorem snd_ix (F : XF G C N sc X) {x y : Expr} {pos : Pos} {a b : IE} {ta tb : OT} (hs : noSl y = true) (ha : PE X x (rE C Γ ta a)) (hb : PE X y (rE C Γ tb b)) : PE X (.Subscript x y pos) (rE C Γ .fz (.ix a b)) := by
  have h := ix_seq (X := X)
  rw [F.K] at h
  exact PE.imp (pe_ix h ha hb (plain_ix hs)) fun σ H Q q => two_imp (f := ixD) (fun _ => rfl) ix_met σ H Q q
/-- an item of what is owned, at a written place: it keeps its holding -/
theorem snd_ixO (F : XF G C N sc X) {x : Expr} {pos p' : Pos} {j k : Nat} {a : IE} {ts : List OT} (ha : PE X x (rE C Γ (.ot ts) a)) : PE X (.Subscript x (.Constant (.int (k : Int)) j p') pos) (rE C Γ ((ts[k]?).getD .fz) (.ix a (.ct (.int (k : Int))))) := by
  have h := ix_tup (X := X)
  rw [F.K] at h
  refine PE.imp (pe_ix h ha pe_int (plain_ix rfl)) fun σ H Q q => ?_
  obtain ⟨c, fs, env, so, sm, p⟩ := q
  refine ⟨c, fs, env, so, sm, (Pst.bind p).imp fun x px v H1 s1 r1 => ?_⟩
  have px' : Pst C.EX (fun d => ∀ v H', Same H H' → RO C.T c ((ts[k]?).getD .fz) fs.flatten H H' v d → Q v H') (ixD x (.int (k : Int))) := px
  obtain ⟨f, nf, nw, o⟩ := r1
  cases o with
  | @ot _ f' q0 vs ds hv ol =>
    have px' : Pst C.EX (fun d => ∀ v H', Same H H' → RO C.T c ((ts[k]?).getD .fz) fs.flatten H H' v d → Q v H') (atD ds (k : Int)) := px'
    cases e : atD ds (k : Int) with
    | ok d =>
      rw [e] at px'
      obtain ⟨i, h1, h2⟩ := atD_some e
      have hi : i = k := by
        unfold ixN at h1
        rw [if_pos (by omega)] at h1
        split at h1
        · have := Option.some.inj h1; simp at this; exact this.symm
        · cases h1
      subst hi
      obtain ⟨u, t, g, g1, g2, g3, g4, g5⟩ := ol.get h2
      have hl := ol.length
      refine ⟨q0, vs, (i : Int), u, rfl, rfl, .of hv, ?_, px' _ _ s1 ?_⟩
      · unfold atI
        rw [hl.1, h1]
        exact g1
      · rw [g2]
        have nf' := List.nodup_cons.mp nf
        exact ⟨g, g5 nf'.2, fun a ha => nw a (List.mem_cons_of_mem _ (g4 a ha)), g3.mono (msk_mono (Same.refl _) fun a z => .inl (z.imp id fun z => (List.mem_append.mp z).elim (List.mem_append_left _) fun z => List.mem_append_right _ (List.mem_cons_of_mem _ (g4 a z)))) fun a _ o h => h⟩
    | ex k es => exact absurd e atD_ex
    | bad => rw [e] at px'; exact px'.elim
/-- an item of a list of one's own, which stays one's own -/
theorem snd_ixV (F : XF G C N sc X) {i : Nat} {x : Str} {y : Expr} {p' pos : Pos} {b : IE} {tb : OT} (hN : N[i]? = some x) (hv : visB sc x = true) (ok : okN x = true) (hz : (Γ[i]?).getD .fz = .ol .fz) (hs : noSl y = true) (hb : PE X y (rE C Γ tb b)) :
    PE X (.Subscript (.Name x p') y pos) (rE C Γ .fz (.ix (.vr i) b)) := by
  obtain ⟨o1, o2, o3⟩ := okN_of ok
  have h := ix_list (X := X)
  rw [F.K] at h
  refine PE.imp (pe_ix h (pe_var (i := i) (by rw [F.N]; exact hN) (F.vis hv) o1 o2) hb (plain_ix hs)) fun σ H Q q => ?_
  obtain ⟨c, fs, env, so, sm, p⟩ := q
  have p : Pst C.EX (fun d => ∀ v H', Same H H' → RO C.T c .fz fs.flatten H H' v d → Q v H') ((ev C.S env (.vr i)).bind fun x => (ev C.S env b).bind fun y => ixD x y) := p
  simp only [ev] at p
  split at p
  · rename_i d e
    obtain ⟨v, t, f, h1, h2, h3, o⟩ := so.sl.get e
    rw [h2] at hz
    have hz : t = .ol .fz := hz
    subst hz
    have p : Pst C.EX (fun d => ∀ v H', Same H H' → RO C.T c .fz fs.flatten H H' v d → Q v H') ((ev C.S env b).bind fun y => ixD d y) := p
    refine ⟨v, h1, c, fs, env, so, sm, (Pst.bind p).imp fun y py w H1 s1 r1 => ?_⟩
    cases o with
    | @ol _ f' q vs ds hq ol =>
      obtain ⟨_, ra⟩ := ol.to_rep
      have py : Pst C.EX (fun d => ∀ v H', Same H H' → RO C.T c .fz fs.flatten H H' v d → Q v H') (ixD (.lst ds) y) := py
      cases y with
      | int k =>
        cases e2 : atD ds k with
        | ok d2 =>
          obtain ⟨u, g1, g2⟩ := rep_at ra e2
          have p' : Pst C.EX _ (atD ds k) := py
          rw [e2] at p'
          exact ⟨q, vs, k, u, rfl, r1.int, .of (s1 _ _ hq), g1, p' _ _ s1 (.of_rep (g2.mono (Cfg.A_mono s1)))⟩
        | ex k' es => exact absurd e2 atD_ex
        | bad =>
          have p' : Pst C.EX _ (atD ds k) := py
          rw [e2] at p'
          exact p'.elim
      | _ => exact py.elim
  · exact p.elim
/-- len of a list of one's own -/
theorem snd_lenV (F : XF G C N sc X) {i : Nat} {x : Str} {p p' pos : Pos} (hN : N[i]? = some x) (hv : visB sc x = true) (ok : okN x = true) (hg : glB sc "len" = true) (hin : ("len" : Str) ∈ G.bl) :
    PE X (.Call (.Name "len" p) [.Name x p'] [] pos) (rE C Γ .fz (.blt .len (.cons (.vr i) .nil))) := by
  obtain ⟨o1, o2, o3⟩ := okN_of ok
  refine PE.imp (pe_callB call_len_seq (F.gl hg) (F.ff.bl _ hin) PySem.boot_len (pa_cons (pe_var (i := i) (by rw [F.N]; exact hN) (F.vis hv) o1 o2) pa_nil)) fun σ H Q q => ?_
  obtain ⟨c, fs, env, so, sm, p⟩ := q
  have p : Pst C.EX (fun d => ∀ v H', Same H H' → RO C.T c .fz fs.flatten H H' v d → Q v H') (argD (consD (ev C.S env (.vr i)) (.ok (.tup []))) (bltD .len)) := p
  simp only [ev] at p
  split at p
  · rename_i d e
    obtain ⟨v, t, f, h1, h2, h3, o⟩ := so.sl.get e
    have r : Rep C.T H v d := o.rep msk_same fun a _ o h => h
    refine ⟨v, h1, ?_⟩
    rw [F.K]
    have p : Pst C.EX (fun d => ∀ v H', Same H H' → RO C.T c .fz fs.flatten H H' v d → Q v H') (bltD .len [d]) := p
    cases r with
    | lst hv a => exact ⟨_, _, rfl, .inl (.of hv), by rw [a.length]; exact p _ _ (Same.refl _) .mkInt⟩
    | tup hv a => exact ⟨_, _, rfl, .inr hv, by rw [a.length]; exact p _ _ (Same.refl _) .mkInt⟩
    | @scr a ns hv => exact ⟨_, _, rfl, .inl hv, by rw [List.length_map]; exact p _ _ (Same.refl _) .mkInt⟩
    | _ => exact p.elim
  · exact p.elim
end
end Pv

/-! Pv, part I: slices, what is gone through, targets. -/
namespace Pv
open PySem PySem.Spec PyProof.Rows L2
section
variable {G : Gt} {C : Ct} {N : List Str} {sc : Scope} {X : Cx} {Γ : List OT}

/-! ### slices -/
theorem PO.imp {e : Option Expr} {t t' : L2.TO} (h : PO X e t) (i : ∀ σ H Q, t' σ H Q → t σ H Q) : PO X e t' := ⟨fun pins s σ H Q I q => h.run pins s σ H Q I (i σ H Q q)⟩
theorem cutL_eq {A : Hp} {vs : List V} {ds : List D} (a : RepA C.T A vs ds) (lo hi : Option Int) : RepA C.T A (cutV vs lo hi) (cutL ds lo hi) := by
  have e : ∀ n d k, HT.sIx n d k = cutN n d k := fun n d k => by cases k <;> rfl
  unfold cutV cutL
  rw [e, e, a.length]
  exact (a.drop _).take _
def rSl (K : PySem.W.Frag) : V → Option Int → Option Int → Hp → VK → Prop := fun x lo hi H Q => rSlL K x lo hi H Q ∨ rSlA K x lo hi H Q
theorem sl_met {t : OT} {c : Cfg} {fs : List (List Addr)} {H H1 : Hp} {σ : L2.St} {env : Env} {v : V} {x : D} {lo hi : Option Int} {Q : VK} (so : SO C.T c Γ fs H σ env) (s : Same H H1) (r : RO C.T c t fs.flatten H H1 v x)
    (p : Pst C.EX (fun d => ∀ v H', Same H H' → RO C.T c .fz fs.flatten H H' v d → Q v H') (slO x lo hi)) : rSl C.T.K v lo hi H1 Q := by
  have ra := r.rep so
  have so1 := so.mono s
  cases ra with
  | lst hv a =>
    simp only [slO] at p
    unfold mkL at p
    split at p
    · exact .inl ⟨_, _, rfl, .of (msk_some.mp hv).2, fun q nq => p _ _ (s.trans (same_upd nq)) ((RO.mkL so1 s nq (cutL_eq a lo hi)).fz so)⟩
    · exact p.elim
  | @scr a ns hv =>
    simp only [slO] at p
    unfold mkL at p
    split at p
    · exact .inl ⟨_, _, rfl, msk_same.seq hv, fun q nq => p _ _ (s.trans (same_upd nq)) ((RO.mkL so1 s nq (cutL_eq (.of_ints ns) lo hi)).fz so)⟩
    · exact p.elim
  | tup hv a =>
    simp only [slO] at p
    unfold mkT at p
    split at p
    · have cl := cutL_eq a lo hi
      refine .inr ⟨_, _, rfl, seqT msk_same hv, fun hw => ?_, fun hw q nq => p _ _ (s.trans (same_upd nq)) (.mkT so1 nq cl)⟩
      refine p _ _ s (.of_rep (.tup hv ?_))
      unfold cutV at cl
      rw [hw.1, hw.2] at cl
      simpa using cl
    · exact p.elim
  | _ => exact p.elim
theorem intR_of {EX : Str → List D → Prop} {K : D → Prop} {y : D} {f : Int → R} (h : Pst EX K (intR y f)) : ∃ i, y = .int i ∧ Pst EX K (f i) := by
  cases y with
  | int i => exact ⟨i, rfl, h⟩
  | _ => exact h.elim
theorem slR_ok (F : XF G C N sc X) : SlR X (rSl C.T.K) := by
  have hr : SlR X (rSl X.K) := sl_list.or sl_tupA
  rw [F.K] at hr
  exact hr
theorem snd_sl (F : XF G C N sc X) {x l h : Expr} {p2 pos : Pos} {a lo hi : IE} {t tl th : OT} (ha : PE X x (rE C Γ t a)) (hl : PE X l (rE C Γ tl lo)) (hh : PE X h (rE C Γ th hi)) : PE X (.Subscript x (.Slice (some l) (some h) none p2) pos) (rE C Γ .fz (.sl a lo hi)) :=
  PE.imp (pe_slice (slR_ok F) ha (po_some hl) (po_some hh)) fun σ H Q q => by
    obtain ⟨c, fs, env, so, sm, p⟩ := q
    refine ⟨c, fs, env, so, sm, (Pst.bind p).imp fun x px v H1 s1 r1 => ?_⟩
    have so1 := so.mono s1
    refine ⟨c, fs, env, so1, sm.mono s1, (Pst.bind px).imp fun y py w H2 s2 r2 => ?_⟩
    obtain ⟨i, rfl, py⟩ := intR_of py
    refine ⟨i, r2.int, c, fs, env, so1.mono s2, (sm.mono s1).mono s2, (Pst.bind py).imp fun z pz u H3 s3 r3 => ?_⟩
    obtain ⟨j, rfl, pz⟩ := intR_of pz
    exact ⟨j, r3.int, sl_met so ((s1.trans s2).trans s3) ((r1.later so1 s2).later (so1.mono s2) s3) pz⟩
theorem snd_slF (F : XF G C N sc X) {x l : Expr} {p2 pos : Pos} {a lo : IE} {t tl : OT} (ha : PE X x (rE C Γ t a)) (hl : PE X l (rE C Γ tl lo)) : PE X (.Subscript x (.Slice (some l) none none p2) pos) (rE C Γ .fz (.slF a lo)) :=
  PE.imp (pe_slice (slR_ok F) ha (po_some hl) po_none) fun σ H Q q => by
    obtain ⟨c, fs, env, so, sm, p⟩ := q
    refine ⟨c, fs, env, so, sm, (Pst.bind p).imp fun x px v H1 s1 r1 => ?_⟩
    have so1 := so.mono s1
    refine ⟨c, fs, env, so1, sm.mono s1, (Pst.bind px).imp fun y py w H2 s2 r2 => ?_⟩
    obtain ⟨i, rfl, py⟩ := intR_of py
    exact ⟨i, r2.int, sl_met so (s1.trans s2) (r1.later so1 s2) py⟩
theorem snd_slT (F : XF G C N sc X) {x h : Expr} {p2 pos : Pos} {a hi : IE} {t th : OT} (ha : PE X x (rE C Γ t a)) (hh : PE X h (rE C Γ th hi)) : PE X (.Subscript x (.Slice none (some h) none p2) pos) (rE C Γ .fz (.slT a hi)) :=
  PE.imp (pe_slice (slR_ok F) ha po_none (po_some hh)) fun σ H Q q => by
    obtain ⟨c, fs, env, so, sm, p⟩ := q
    refine ⟨c, fs, env, so, sm, (Pst.bind p).imp fun x px v H1 s1 r1 => ?_⟩
    have so1 := so.mono s1
    refine ⟨c, fs, env, so1, sm.mono s1, (Pst.bind px).imp fun y py w H2 s2 r2 => ?_⟩
    obtain ⟨i, rfl, py⟩ := intR_of py
    exact ⟨i, r2.int, sl_met so (s1.trans s2) (r1.later so1 s2) py⟩
end
end Pv

/-! Pv, part J: what is gone through, targets, comprehensions. -/
namespace Pv
open PySem PySem.Spec PyProof.Rows L2

/-! ### targets -/
structure OffEq (vs : List Nat) (σ σ' : L2.St) : Prop where
  len : σ'.length = σ.length
  off : ∀ j, j ∉ vs → σ'[j]? = σ[j]?
theorem OffEq.trans {vs ws : List Nat} {a b c : L2.St} (h : OffEq vs a b) (g : OffEq ws b c) : OffEq (vs ++ ws) a c :=
  ⟨g.len.trans h.len, fun j hj => (g.off j fun z => hj (List.mem_append_right _ z)).trans (h.off j fun z => hj (List.mem_append_left _ z))⟩
theorem wipe_get (σ : L2.St) : ∀ (vs : List Nat) (j : Nat), (wipe σ vs)[j]? = if j ∈ vs then (σ[j]?).map (fun _ => none) else σ[j]?
  | [], j => by simp [wipe]
  | v :: vs, j => by
    unfold wipe
    by_cases h : v = j
    · subst h
      rw [List.getElem?_set_self', wipe_get σ vs v]
      by_cases hv : v ∈ vs
      · simp [hv]
        cases σ[v]? <;> rfl
      · simp [hv]
        cases σ[v]? <;> rfl
    · rw [List.getElem?_set_ne h, wipe_get σ vs j]
      have : (j ∈ v :: vs) ↔ j ∈ vs := by simp [Ne.symm h]
      simp only [this]
theorem OffEq.wipe {vs : List Nat} {σ σ' : L2.St} (h : OffEq vs σ σ') : L2.wipe σ' vs = L2.wipe σ vs := by
  apply List.ext_getElem?
  intro j
  rw [wipe_get, wipe_get]
  by_cases hj : j ∈ vs
  · rw [if_pos hj, if_pos hj]
    by_cases hl : j < σ.length
    · rw [List.getElem?_eq_getElem hl, List.getElem?_eq_getElem (h.len ▸ hl)]
      rfl
    · have hl' : ¬ j < σ'.length := by rw [h.len]; exact hl
      rw [List.getElem?_eq_none (Nat.le_of_not_lt hl), List.getElem?_eq_none (Nat.le_of_not_lt hl')]
  · rw [if_neg hj, if_neg hj, h.off j hj]
theorem setAll_app {α : Type} (x : α) : ∀ (vs ws : List Nat) (l : List α), setAll x l (vs ++ ws) = setAll x (setAll x l vs) ws
  | [], _, _ => rfl
  | v :: vs, ws, l => setAll_app x vs ws (l.set v x)
section
variable {G : Gt} {C : Ct} {N : List Str} {sc : Scope} {X : Cx} {Γ : List OT}
def rG (C : Ct) (t : Tg) : TG := fun v σ H Q => ∃ c Γ fs env d env', SO C.T c Γ fs H σ env ∧ Rep C.T (c.A H fs.flatten) v d ∧ bindT t d env = some env' ∧
  ∀ σ', SO C.T c (setAll .fz Γ t.own) (setAll [] fs t.own) H σ' env' → Same (c.A H fs.flatten) (c.A H (setAll [] fs t.own).flatten) → OffEq t.own σ σ' → Q σ' H
def rGs (C : Ct) (t : Tg) : TGs := fun vs σ H Q => ∃ c Γ fs env ds env', SO C.T c Γ fs H σ env ∧ RepA C.T (c.A H fs.flatten) vs ds ∧ bindT t (.tup ds) env = some env' ∧
  ∀ σ', SO C.T c (setAll .fz Γ t.own) (setAll [] fs t.own) H σ' env' → Same (c.A H fs.flatten) (c.A H (setAll [] fs t.own).flatten) → OffEq t.own σ σ' → Q σ' H
theorem PG.imp {e : Expr} {t t' : TG} (h : PG X e t) (i : ∀ v σ H Q, t' v σ H Q → t v σ H Q) : PG X e t' := ⟨fun pins s σ H v u Q I r q => h.run pins s σ H v u Q I r (i v σ H Q q)⟩
theorem PGs.imp {e : List Expr} {t t' : TGs} (h : PGs X e t) (i : ∀ v σ H Q, t' v σ H Q → t v σ H Q) : PGs X e t' := ⟨fun pins s σ H v u Q I r q => h.run pins s σ H v u Q I r (i v σ H Q q)⟩
theorem sndG_nm (F : XF G C N sc X) {i : Nat} {x : Str} {pos : Pos} (hN : N[i]? = some x) (hx : Loc X.env.scope x) (hf : X.fn x = true ∨ X.env.scope.names.lookup x = some .local) : PG X (.Name x pos) (rG C (.nm i)) := by
  refine PG.imp (pg_name (i := i) (by rw [F.N]; exact F.nd) (by rw [F.N]; exact hN) hx hf) fun v σ H Q h => ?_
  obtain ⟨c, Γ, fs, env, d, env', so, r, e, q⟩ := h
  cases e
  obtain ⟨so', s'⟩ := so.setF (Same.refl H) i r
  exact q _ so' s' ⟨by simp, fun j hj => by rw [List.getElem?_set_ne]; intro e; subst e; exact hj (by simp [Tg.own])⟩
theorem assign_plain {e : Expr} (h : plainX e = true) (es : List Expr) (env : PySem.Env) : assignEach (e :: es) env = (false, assign e env) :: assignEach es env := by
  cases e <;> first | rfl | cases h
theorem assign_list {env : PySem.Env} : ∀ {es : List Expr}, es.all plainX = true → (assignEach es env).length = es.length ∧ (assignEach es env).findIdx? (·.1) = none
  | [], _ => ⟨rfl, rfl⟩
  | e :: es, h => by
    obtain ⟨h1, h2⟩ := tail_plain h
    obtain ⟨g1, g2⟩ := assign_list (env := env) h2
    rw [assign_plain h1]
    refine ⟨by simp [g1], ?_⟩
    rw [List.findIdx?_cons]
    simp [g2]
/-- a list of targets binds as many -/
theorem bindT_len : ∀ {t : Tg} {es : List Expr} {ds : List D} {env env' : Env} {fb : Str → Bool}, chkGs N sc fb t es = true → bindT t (.tup ds) env = some env' → ds.length = es.length
  | .nil, [], ds, env, env', fb, _, e => by
    cases ds with
    | nil => rfl
    | cons _ _ => cases e
  | .nil, _ :: _, _, _, _, _, h, _ => by simp [chkGs] at h
  | .cons t ts, [], _, _, _, _, h, _ => by simp [chkGs] at h
  | .cons t ts, x :: xs, ds, env, env', fb, h, e => by
    cases ds with
    | nil => cases e
    | cons d ds =>
      simp only [chkGs, Bool.and_eq_true] at h
      simp only [bindT, Option.bind_eq_some_iff] at e
      obtain ⟨e1, _, e2⟩ := e
      have := bindT_len (t := ts) h.2 e2
      simp [this]
  | .nm _, _, _, _, _, _, h, _ => by simp [chkGs] at h
  | .tp _, _, _, _, _, _, h, _ => by simp [chkGs] at h
theorem chkGs_plain : ∀ {t : Tg} {es : List Expr} {fb : Str → Bool}, chkGs N sc fb t es = true → es.all plainX = true
  | .nil, [], _, _ => rfl
  | .nil, _ :: _, _, h => by simp [chkGs] at h
  | .cons t ts, [], _, h => by simp [chkGs] at h
  | .cons t ts, x :: xs, fb, h => by
    simp only [chkGs, Bool.and_eq_true] at h
    simp only [List.all_cons, Bool.and_eq_true]
    exact ⟨h.1.1, chkGs_plain h.2⟩
  | .nm _, _, _, h => by simp [chkGs] at h
  | .tp _, _, _, h => by simp [chkGs] at h
mutual
theorem sndG (F : XF G C N sc X) {fb : Str → Bool} (hfb : ∀ x, fb x = true → X.fn x = true) : ∀ (t : Tg) (e : Expr), chkG N sc fb t e = true → PG X e (rG C t)
  | .nm i, e, h => by
    cases e with
    | Name x pos =>
      simp only [chkG, Bool.and_eq_true, decide_eq_true_eq] at h
      obtain ⟨h1, h2⟩ := h
      split at h2
      · rename_i e
        rw [← F.sc] at e
        exact sndG_nm F h1 (.inl e) (.inr e)
      · rename_i e
        rw [← F.sc] at e
        exact sndG_nm F h1 (.inr e) (.inl (hfb _ h2))
      · cases h2
    | _ => simp [chkG] at h
  | .tp t, e, h => by
    cases e with
    | Tuple es k pos =>
      have h' : chkGs N sc fb t es = true := by simpa [chkG] using h
      have hp := chkGs_plain h'
      refine PG.imp (pg_tup F.calm (sndGs F hfb t es h') (assign_list hp).1 (assign_list hp).2) fun v σ H Q q => ?_
      obtain ⟨c, Γ, fs, env, d, env', so, r, e, q⟩ := q
      cases d with
      | tup ds =>
        have e' : bindT t (.tup ds) env = some env' := e
        cases r with
        | tup hv ra =>
          refine ⟨_, _, rfl, by rw [F.K]; exact seqT msk_same hv, ?_, c, Γ, fs, env, ds, env', so, ra, e', q⟩
          rw [ra.length]
          exact bindT_len h' e'
      | _ => cases e
    | _ => simp [chkG] at h
  | .nil, e, h => by cases e <;> simp [chkG] at h
  | .cons _ _, e, h => by cases e <;> simp [chkG] at h
theorem sndGs (F : XF G C N sc X) {fb : Str → Bool} (hfb : ∀ x, fb x = true → X.fn x = true) : ∀ (t : Tg) (es : List Expr), chkGs N sc fb t es = true → PGs X es (rGs C t)
  | .nil, [], _ => PGs.imp pgs_nil fun vs σ H Q q => by
    obtain ⟨c, Γ, fs, env, ds, env', so, r, e, q⟩ := q
    cases ds with
    | nil =>
      cases r
      cases e
      exact ⟨rfl, q _ so (Same.refl _) ⟨rfl, fun _ _ => rfl⟩⟩
    | cons _ _ => cases e
  | .nil, _ :: _, h => by simp [chkGs] at h
  | .cons t ts, [], h => by simp [chkGs] at h
  | .cons t ts, x :: xs, h => by
    simp only [chkGs, Bool.and_eq_true] at h
    refine PGs.imp (pgs_cons (sndG F hfb t x h.1.2) (sndGs F hfb ts xs h.2) (by rw [assign_plain h.1.1]; rfl)) fun vs σ H Q q => ?_
    obtain ⟨c, Γ, fs, env, ds, env', so, r, e, q⟩ := q
    cases ds with
    | nil => cases e
    | cons d ds =>
      cases r with
      | cons r1 r2 =>
        simp only [bindT, Option.bind_eq_some_iff] at e
        obtain ⟨env1, e1, e2⟩ := e
        refine ⟨_, _, rfl, c, Γ, fs, env, d, env1, so, r1, e1, fun σ1 so1 s1 o1 => ?_⟩
        refine ⟨c, _, _, env1, ds, env', so1, r2.mono s1, e2, fun σ2 so2 s2 o2 => ?_⟩
        have e3 : (Tg.cons t ts).own = t.own ++ ts.own := rfl
        refine q σ2 ?_ ?_ (by rw [e3]; exact o1.trans o2)
        · rw [e3, setAll_app, setAll_app]; exact so2
        · rw [e3, setAll_app]; exact s1.trans s2
  | .nm _, _, h => by simp [chkGs] at h
  | .tp _, _, h => by simp [chkGs] at h
end

/-! ### what is gone through -/
def ItOk (T : Tb) (A1 : Hp) (J : It) (items : List D) : Prop := ∃ (g : Hp → Prop) (Y : Nat → Hp → V → Hp → Prop), Walk J items.length g Y ∧ (∀ H2, Same A1 H2 → g H2) ∧
  ∀ i H x H', i < items.length → Same A1 H → Y i H x H' → Same H H' ∧ ∀ B : Addr → Prop, (∀ a, B a → H a ≠ none) → Same A1 (msk H B) → ∃ d, items[i]? = some d ∧ Rep T (msk H' B) x d
def rI (C : Ct) (Γ : List OT) (e : IE) : TI := fun σ H Rr => ∃ c fs env, SO C.T c Γ fs H σ env ∧ C.xc.Sm H ∧
  Pst C.EX (fun d => ∀ items J H', d = .tup items → Same H H' → ItOk C.T (c.A H' fs.flatten) J items → Rr J H') (ev C.S env e)
theorem PI.imp {tg e : Expr} {t t' : TI} (h : PI X tg e t) (i : ∀ σ H Q, t' σ H Q → t σ H Q) : PI X tg e t' := ⟨fun pins s σ H Q I q => h.run pins s σ H Q I (i σ H Q q)⟩
theorem item_at {T : Tb} {A : Hp} {vs : List V} {ds : List D} {i : Nat} {x : V} (r : RepA T A vs ds) (h : vs[i]? = some x) : ∃ d, ds[i]? = some d ∧ Rep T A x d := by
  have hl := r.length
  have hi : i < ds.length := by rw [← hl]; exact (List.getElem?_eq_some_iff.mp h).1
  have e := List.getElem?_eq_getElem hi
  obtain ⟨v, h1, h2⟩ := r.get e
  rw [h] at h1
  cases h1
  exact ⟨_, e, h2⟩
theorem itOk_at {T : Tb} {A1 : Hp} {J : It} {g : Hp → Prop} {xs : Nat → Option V} {items : List D} (w : Walk J items.length g (fun i H x H' => H' = H ∧ xs i = some x)) (hg : ∀ H2, Same A1 H2 → g H2)
    (hr : ∀ i x, i < items.length → xs i = some x → ∃ d, items[i]? = some d ∧ Rep T A1 x d) : ItOk T A1 J items :=
  ⟨g, _, w, hg, fun i H x H' hi s y => by
    obtain ⟨rfl, e⟩ := y
    refine ⟨Same.refl _, fun B hB sB => ?_⟩
    obtain ⟨d, e1, r⟩ := hr i x hi e
    exact ⟨d, e1, r.mono sB⟩⟩
theorem itOk_list {T : Tb} {A1 : Hp} {a : Addr} {vs : List V} {ds : List D} (h : A1 a = some (.lst vs)) (r : RepA T A1 vs ds) : ItOk T A1 (Itl T.K a) ds :=
  itOk_at (g := fun H => SqL T.K H a vs) (xs := fun i => vs[i]?) (by rw [← r.length]; exact walk_list) (fun H2 s => SqL.of (s _ _ h)) fun i x hi e => item_at r e
theorem itOk_scr {T : Tb} {A1 : Hp} {a : Addr} {ns : List Int} (h : SqL T.K A1 a (ns.map V.int)) : ItOk T A1 (Itl T.K a) (ns.map D.int) :=
  itOk_at (g := fun H => SqL T.K H a (ns.map V.int)) (xs := fun i => (ns.map V.int)[i]?) (by
    have := walk_list (K := T.K) (a := a) (xs := ns.map V.int)
    rw [List.length_map] at this ⊢
    exact this) (fun H2 s => s.seq h) fun i x hi e => item_at (RepA.of_ints ns) e
theorem itOk_tup {T : Tb} {A1 : Hp} {a : Addr} {vs : List V} {ds : List D} (h : SqT T.K A1 a vs) (r : RepA T A1 vs ds) : ItOk T A1 (Itt T.K a) ds :=
  itOk_at (g := fun H => SqT T.K H a vs) (xs := fun i => vs[i]?) (by rw [← r.length]; exact walk_tup) (fun H2 s => seqT s h) fun i x hi e => item_at r e
theorem itOk_rng {T : Tb} {A1 : Hp} {lo : Int} {n : Nat} : ItOk T A1 (L2.Itr lo n) ((List.range n).map fun k : Nat => D.int (lo + k)) :=
  itOk_at (g := fun _ => True) (xs := fun i => some (.int (lo + i))) (by
    rw [List.length_map, List.length_range]
    exact (walk_range (lo := lo) (n := n)).mono (fun _ h => h) fun i H x H' hi _ y => ⟨y.1, by rw [y.2]⟩) (fun _ _ => trivial) fun i x hi e => by
    rw [List.length_map, List.length_range] at hi
    cases e
    exact ⟨.int (lo + i), by simp [hi], .int _⟩
/-- a new pair at each turn -/
theorem itOk_pair {T : Tb} {A1 : Hp} {J : It} {g : Hp → Prop} {xs ys : Nat → Option V} {items : List D} (w : Walk J items.length g (YPair xs ys)) (hg : ∀ H2, Same A1 H2 → g H2)
    (hr : ∀ i x y, i < items.length → xs i = some x → ys i = some y → ∃ dx dy, items[i]? = some (.tup [dx, dy]) ∧ Rep T A1 x dx ∧ Rep T A1 y dy) : ItOk T A1 J items :=
  ⟨g, _, w, hg, fun i H x H' hi s y => by
    obtain ⟨T', x', y', rfl, nT, rfl, ex, ey⟩ := y
    refine ⟨same_upd nT, fun B hB sB => ?_⟩
    obtain ⟨dx, dy, e, r1, r2⟩ := hr i x' y' hi ex ey
    have sB' : Same A1 (msk (upd H T' (.tup [x', y'])) B) := sB.trans (msk_mono (same_upd nT) fun _ h => .inl h)
    exact ⟨_, e, .tup (.of (msk_some.mpr ⟨fun z => hB _ z nT, upd_same⟩)) (.cons (r1.mono sB') (.cons (r2.mono sB') .nil))⟩⟩
theorem zipD_len : ∀ (a b : List D), (zipD a b).length = min a.length b.length
  | [], b => by simp [zipD]
  | _ :: _, [] => by simp [zipD]
  | x :: xs, y :: ys => by simp only [zipD, List.length_cons, zipD_len xs ys]; omega
theorem zipD_get : ∀ (a b : List D) (i : Nat) (x y : D), a[i]? = some x → b[i]? = some y → (zipD a b)[i]? = some (.tup [x, y])
  | [], _, _, _, _, h, _ => by simp at h
  | _ :: _, [], _, _, _, _, h => by simp at h
  | a :: as, b :: bs, 0, x, y, h, g => by simp at h g; subst h g; rfl
  | a :: as, b :: bs, i + 1, x, y, h, g => by
    have := zipD_get as bs i x y (by simpa using h) (by simpa using g)
    simpa [zipD] using this
theorem enuD_len : ∀ (n : Nat) (a : List D), (enuD n a).length = a.length
  | _, [] => rfl
  | n, _ :: as => by simp [enuD, enuD_len (n + 1) as]
theorem enuD_get : ∀ (n : Nat) (a : List D) (i : Nat) (x : D), a[i]? = some x → (enuD n a)[i]? = some (.tup [.int ((n + i : Nat) : Int), x])
  | _, [], _, _, h => by simp at h
  | n, a :: as, 0, x, h => by simp at h; subst h; rfl
  | n, a :: as, i + 1, x, h => by
    have := enuD_get (n + 1) as i x (by simpa using h)
    rw [show n + (i + 1) = n + 1 + i by omega]
    simpa [enuD] using this
theorem itOk_zip {T : Tb} {A1 : Hp} {k l : Bool} {a b : Addr} {vs ws : List V} {ds es : List D} (h1 : SqK k T.K A1 a vs) (h2 : SqK l T.K A1 b ws) (r1 : RepA T A1 vs ds) (r2 : RepA T A1 ws es) : ItOk T A1 (ItzQ T.K k l a b vs ws) (zipD ds es) := by
  have sq : ∀ {k : Bool} {a : Addr} {vs : List V} {H H2 : Hp}, Same H H2 → SqK k T.K H a vs → SqK k T.K H2 a vs := fun {k a vs H H2} s h => by
    cases k with
    | true => exact seqT s h
    | false => exact Same.seq s h
  refine itOk_pair (g := fun H => SqK k T.K H a vs ∧ SqK l T.K H b ws) (walk_zipQ (by rw [zipD_len, r1.length, r2.length])) (fun H2 s => ⟨sq s h1, sq s h2⟩) fun i x y hi ex ey => ?_
  obtain ⟨dx, e1, q1⟩ := item_at r1 ex
  obtain ⟨dy, e2, q2⟩ := item_at r2 ey
  exact ⟨dx, dy, zipD_get _ _ _ _ _ e1 e2, q1, q2⟩
theorem itOk_enu {T : Tb} {A1 : Hp} {a : Addr} {vs : List V} {ds : List D} (h1 : A1 a = some (.lst vs)) (r1 : RepA T A1 vs ds) : ItOk T A1 (Ite T.K a) (enuD 0 ds) := by
  refine itOk_pair (g := fun H => SqL T.K H a vs) (xs := fun i => some (.int (i : Nat))) (ys := fun i => vs[i]?) (by rw [enuD_len, ← r1.length]; exact walk_enum) (fun H2 s => SqL.of (s _ _ h1)) fun i x y hi ex ey => ?_
  obtain ⟨dy, e2, q2⟩ := item_at r1 ey
  cases ex
  exact ⟨.int i, dy, by have := enuD_get 0 ds i dy e2; simpa using this, .int _, q2⟩
theorem rev_at {α : Type} {xs : List α} {i : Nat} {x : α} (hi : i < xs.length) (h : xs[xs.length - 1 - i]? = some x) : xs.reverse[i]? = some x := by
  rw [List.getElem?_reverse hi]
  exact h
theorem itOk_rev {T : Tb} {A1 : Hp} {a : Addr} {vs : List V} {ds : List D} (h : A1 a = some (.lst vs)) (r : RepA T A1 vs ds) : ItOk T A1 (Itv T.K a vs.length) ds.reverse :=
  itOk_at (g := fun H => SqL T.K H a vs) (xs := fun i => vs[vs.length - 1 - i]?) (by rw [List.length_reverse, ← r.length]; exact walk_rev) (fun H2 s => SqL.of (s _ _ h)) fun i x hi e => by
    rw [List.length_reverse, ← r.length] at hi
    exact item_at r.rev (rev_at hi e)
theorem walk_revT {K : PySem.W.Frag} {a : Addr} {xs : List V} : Walk (RT.ItvT K a xs.length) xs.length (fun H => SqT K H a xs) (fun i H x H' => H' = H ∧ xs[xs.length - 1 - i]? = some x) :=
  ⟨fun i _ hi q => ⟨hi, xs, xs[xs.length - 1 - i]'(by omega), q, by simp [show xs.length - 1 - i < xs.length by omega]⟩, fun _ _ => Nat.le_refl _, fun _ _ _ _ _ q y => ⟨y.1, y.2 xs q⟩⟩
theorem itOk_revT {T : Tb} {A1 : Hp} {a : Addr} {vs : List V} {ds : List D} (h : SqT T.K A1 a vs) (r : RepA T A1 vs ds) : ItOk T A1 (RT.ItvT T.K a vs.length) ds.reverse :=
  itOk_at (g := fun H => SqT T.K H a vs) (xs := fun i => vs[vs.length - 1 - i]?) (by rw [List.length_reverse, ← r.length]; exact walk_revT) (fun H2 s => seqT s h) fun i x hi e => by
    rw [List.length_reverse, ← r.length] at hi
    exact item_at r.rev (rev_at hi e)
end
end Pv

/-! Pv, part K: what is gone through, as the text says it; comprehensions. -/
namespace Pv
open PySem PySem.Spec PyProof.Rows L2
section
variable {G : Gt} {C : Ct} {N : List Str} {sc : Scope} {X : Cx} {Γ : List OT}
/-- one operand alone -/
theorem Pst.one {EX : Str → List D → Prop} {K : D → Prop} {r : R} {f : List D → R} (h : Pst EX K (argD (consD r (.ok (.tup []))) f)) : Pst EX (fun d => Pst EX K (f [d])) r := by
  cases r <;> exact h
theorem sndI_val (F : XF G C N sc X) {tg x : Expr} {a : IE} {t : OT} (ha : PE X x (rE C Γ t a)) : PI X tg x (rI C Γ (.it .val (.cons a .nil))) := by
  refine ⟨fun pins s σ H R I q => ?_⟩
  obtain ⟨c, fs, env, so, sm, p⟩ := q
  have p1 : Pst C.EX (fun d => Pst C.EX _ (itD .val [d])) (ev C.S env a) := Pst.one p
  cases e : ev C.S env a with
  | bad => rw [e] at p1; exact p1.elim
  | ex k es =>
    rw [e] at p1
    exact (pi_list ha).run pins s σ H R I ⟨c, fs, env, so, sm, by rw [e]; exact p1⟩
  | ok d =>
    rw [e] at p1
    have p1 : Pst C.EX (fun d => ∀ items J H', d = .tup items → Same H H' → ItOk C.T (c.A H' fs.flatten) J items → R J H') (itD .val [d]) := p1
    cases d with
    | lst ds =>
      refine (pi_list ha).run pins s σ H R I ⟨c, fs, env, so, sm, ?_⟩
      rw [e]
      intro v H1 s1 r1
      have r := r1.rep so
      cases r with
      | lst hv ra => exact ⟨_, rfl, ⟨_, .of (msk_some.mp hv).2⟩, by rw [F.K]; exact p1 _ _ _ rfl s1 (itOk_list hv ra)⟩
    | tup ds =>
      refine (pi_tup ha).run pins s σ H R I ⟨c, fs, env, so, sm, ?_⟩
      rw [e]
      intro v H1 s1 r1
      have r := r1.rep so
      cases r with
      | tup hv ra => exact ⟨_, rfl, ⟨_, by rw [F.K]; exact seqT msk_same hv⟩, by rw [F.K]; exact p1 _ _ _ rfl s1 (itOk_tup hv ra)⟩
    | scr ns =>
      refine (pi_list ha).run pins s σ H R I ⟨c, fs, env, so, sm, ?_⟩
      rw [e]
      intro v H1 s1 r1
      have r := r1.rep so
      cases r with
      | scr hv => exact ⟨_, rfl, ⟨_, by rw [F.K]; exact msk_same.seq hv⟩, by rw [F.K]; exact p1 _ _ _ rfl s1 (itOk_scr hv)⟩
    | _ => exact p1.elim
theorem rngOk_of {i : Int} (h : rngOk i = true) : -(2 ^ 62) ≤ i ∧ i < 2 ^ 62 := by
  unfold rngOk at h
  simp only [Bool.and_eq_true, decide_eq_true_eq] at h
  omega
/-- an argument list of one, of two -/
theorem rA_one {x : Expr} {a : IE} {t : OT} (hp : plainX x = true) (ha : PE X x (rE C Γ t a)) : PA X [x] (rA C Γ [t] (.cons a .nil)) := sndA_cons hp ha sndA_nil
theorem Pst.two {EX : Str → List D → Prop} {K : D → Prop} {r q : R} {f : List D → R} (h : Pst EX K (argD (consD r (consD q (.ok (.tup [])))) f)) : Pst EX (fun d => ∃ x y, d = .tup [x, y] ∧ Pst EX K (f [x, y])) (consD r (consD q (.ok (.tup [])))) := by
  cases r with
  | ok x =>
    cases q with
    | ok y => exact ⟨x, y, rfl, h⟩
    | ex k es => exact h
    | bad => exact h
  | ex k es => cases q <;> exact h
  | bad => cases q <;> exact h
theorem Pst.one' {EX : Str → List D → Prop} {K : D → Prop} {r : R} {f : List D → R} (h : Pst EX K (argD (consD r (.ok (.tup []))) f)) : Pst EX (fun d => ∃ x, d = .tup [x] ∧ Pst EX K (f [x])) (consD r (.ok (.tup []))) := by
  cases r with
  | ok x => exact ⟨x, rfl, h⟩
  | ex k es => exact h
  | bad => exact h
theorem sndI_rng1 (F : XF G C N sc X) {tg x : Expr} {p pos : Pos} {a : IE} {t : OT} (hg : glB sc "range" = true) (hin : ("range" : Str) ∈ G.bl) (hp : plainX x = true) (ha : PE X x (rE C Γ t a)) : PI X tg (.Call (.Name "range" p) [x] [] pos) (rI C Γ (.it .rng (.cons a .nil))) := by
  refine PI.imp (pi_range1 (F.gl hg) (F.ff.bl _ hin) (rA_one hp ha) (star_plain hp _ _)) fun σ H R q => ?_
  obtain ⟨c, fs, env, so, sm, p⟩ := q
  refine ⟨c, fs, env, so, sm, (Pst.one' p).imp fun d k ds vs H1 e s1 r1 => ?_⟩
  obtain ⟨x, e2, q⟩ := k
  subst e2
  cases e
  cases r1.rep so with
  | cons r rr =>
    cases rr
    cases r with
    | int j =>
      have q : Pst C.EX _ (if rngOk j = true then Pv.R.ok (.tup ((List.range j.toNat).map fun k : Nat => .int k)) else .bad) := q
      by_cases hj : rngOk j = true
      · rw [if_pos hj] at q
        refine ⟨j, rfl, (rngOk_of hj).1, (rngOk_of hj).2, q _ _ _ rfl s1 ?_⟩
        have := itOk_rng (T := C.T) (A1 := c.A H1 fs.flatten) (lo := 0) (n := j.toNat)
        simpa using this
      · rw [if_neg hj] at q
        exact q.elim
    | _ => exact q.elim
theorem sndI_rng2 (F : XF G C N sc X) {tg x y : Expr} {p pos : Pos} {a b : IE} {t u : OT} (hg : glB sc "range" = true) (hin : ("range" : Str) ∈ G.bl) (hp : plainX x = true) (hp2 : plainX y = true) (ha : PE X x (rE C Γ t a)) (hb : PE X y (rE C Γ u b)) :
    PI X tg (.Call (.Name "range" p) [x, y] [] pos) (rI C Γ (.it .rng (.cons a (.cons b .nil)))) := by
  refine PI.imp (pi_range2 (F.gl hg) (F.ff.bl _ hin) (sndA_cons hp ha (rA_one hp2 hb)) (by rw [star_plain hp, star_plain hp2]; rfl) (star_plain hp2 _ _)) fun σ H R q => ?_
  obtain ⟨c, fs, env, so, sm, p⟩ := q
  refine ⟨c, fs, env, so, sm, (Pst.two p).imp fun d k ds vs H1 e s1 r1 => ?_⟩
  obtain ⟨x, y, e2, q⟩ := k
  subst e2
  cases e
  cases r1.rep so with
  | cons r rr =>
    cases rr with
    | cons r' rr =>
      cases rr
      cases r with
      | int i =>
        cases r' with
        | int j =>
          have q : Pst C.EX _ (if (rngOk i && rngOk j) = true then Pv.R.ok (.tup ((List.range (j - i).toNat).map fun k : Nat => .int (i + k))) else .bad) := q
          by_cases hj : (rngOk i && rngOk j) = true
          · rw [if_pos hj] at q
            have hj' := Bool.and_eq_true_iff.mp hj
            exact ⟨i, j, rfl, ⟨(rngOk_of hj'.1).1, (rngOk_of hj'.1).2, (rngOk_of hj'.2).1, (rngOk_of hj'.2).2⟩, q _ _ _ rfl s1 itOk_rng⟩
          · rw [if_neg hj] at q
            exact q.elim
        | _ => exact q.elim
      | _ => exact q.elim
theorem sndI_zip (F : XF G C N sc X) {x y : Expr} {p pos tpos : Pos} {elts : List Expr} {kk : Nat} {a b : IE} {t u : OT} (hg : glB sc "zip" = true) (hin : ("zip" : Str) ∈ G.bl) (hp : plainX x = true) (hp2 : plainX y = true) (ha : PE X x (rE C Γ t a)) (hb : PE X y (rE C Γ u b)) :
    PI X (.Tuple elts kk tpos) (.Call (.Name "zip" p) [x, y] [] pos) (rI C Γ (.it .zip (.cons a (.cons b .nil)))) := by
  refine PI.imp (pi_zipQ (F.gl hg) (F.ff.bl _ hin) (sndA_cons hp ha (rA_one hp2 hb)) (star_plain hp _ _) (back_plain (by simp [hp2]))) fun σ H R q => ?_
  obtain ⟨c, fs, env, so, sm, p⟩ := q
  refine ⟨c, fs, env, so, sm, (Pst.two p).imp fun d k ds vs H1 e s1 r1 => ?_⟩
  obtain ⟨x, y, e2, q⟩ := k
  subst e2
  cases e
  rw [F.K]
  have fin : ∀ {k l : Bool} {a b : Addr} {xs ys : List V} {ds es : List D}, SqK k C.T.K (c.A H1 fs.flatten) a xs → SqK l C.T.K (c.A H1 fs.flatten) b ys → RepA C.T (c.A H1 fs.flatten) xs ds → RepA C.T (c.A H1 fs.flatten) ys es →
      (∀ items J H', D.tup (zipD ds es) = .tup items → Same H H' → ItOk C.T (c.A H' fs.flatten) J items → R J H') →
      ∃ k l a' b' xs ys, [V.ref a, V.ref b] = [V.ref a', V.ref b'] ∧ SqK k C.T.K H1 a' xs ∧ SqK l C.T.K H1 b' ys ∧ R (ItzQ C.T.K k l a' b' xs ys) H1 := fun {k l a b xs ys ds es} h1 h2 r1 r2 q => by
    have up : ∀ {k : Bool} {a : Addr} {vs : List V}, SqK k C.T.K (c.A H1 fs.flatten) a vs → SqK k C.T.K H1 a vs := fun {k a vs} h => by
      cases k with
      | true => exact seqT msk_same h
      | false => exact Same.seq msk_same h
    exact ⟨k, l, a, b, xs, ys, rfl, up h1, up h2, q _ _ _ rfl s1 (itOk_zip h1 h2 r1 r2)⟩
  cases r1.rep so with
  | cons r rr =>
    cases rr with
    | cons r' rr =>
      cases rr
      cases r with
      | lst h1 a1 =>
        cases r' with
        | lst h2 a2 => exact fin (k := false) (l := false) (SqL.of h1) (SqL.of h2) a1 a2 q
        | tup h2 a2 => exact fin (k := false) (l := true) (SqL.of h1) h2 a1 a2 q
        | _ => exact q.elim
      | tup h1 a1 =>
        cases r' with
        | lst h2 a2 => exact fin (k := true) (l := false) h1 (SqL.of h2) a1 a2 q
        | tup h2 a2 => exact fin (k := true) (l := true) h1 h2 a1 a2 q
        | _ => exact q.elim
      | _ => cases r' <;> exact q.elim
theorem sndI_enu (F : XF G C N sc X) {x : Expr} {p pos tpos : Pos} {elts : List Expr} {kk : Nat} {a : IE} {t : OT} (hg : glB sc "enumerate" = true) (hin : ("enumerate" : Str) ∈ G.bl) (hp : plainX x = true) (ha : PE X x (rE C Γ t a)) :
    PI X (.Tuple elts kk tpos) (.Call (.Name "enumerate" p) [x] [] pos) (rI C Γ (.it .enu (.cons a .nil))) := by
  refine PI.imp (pi_enum (F.gl hg) (F.ff.bl _ hin) (rA_one hp ha) (star_plain hp _ _)) fun σ H R q => ?_
  obtain ⟨c, fs, env, so, sm, p⟩ := q
  refine ⟨c, fs, env, so, sm, (Pst.one' p).imp fun d k ds vs H1 e s1 r1 => ?_⟩
  obtain ⟨x, e2, q⟩ := k
  subst e2
  cases e
  rw [F.K]
  cases r1.rep so with
  | cons r rr =>
    cases rr
    cases r with
    | lst h1 a1 => exact ⟨_, _, rfl, .of (msk_some.mp h1).2, q _ _ _ rfl s1 (itOk_enu h1 a1)⟩
    | _ => exact q.elim
theorem sndI_rev (F : XF G C N sc X) {tg x : Expr} {p pos : Pos} {a : IE} {t : OT} (hg : glB sc "reversed" = true) (hin : ("reversed" : Str) ∈ G.bl) (hp : plainX x = true) (ha : PE X x (rE C Γ t a)) :
    PI X tg (.Call (.Name "reversed" p) [x] [] pos) (rI C Γ (.it .rev (.cons a .nil))) := by
  refine PI.imp (RT.pi_revA (F.gl hg) (F.ff.bl _ hin) ha (star_plain hp _ _)) fun σ H R q => ?_
  obtain ⟨c, fs, env, so, sm, p⟩ := q
  refine ⟨c, fs, env, so, sm, (Pst.one p).imp fun d q v H1 s1 r1 => ?_⟩
  rw [F.K]
  have r := r1.rep so
  cases r with
  | lst h1 a1 => exact ⟨_, _, rfl, .inl ⟨.of (msk_some.mp h1).2, q _ _ _ rfl s1 (itOk_rev h1 a1)⟩⟩
  | tup h1 a1 => exact ⟨_, _, rfl, .inr ⟨seqT msk_same h1, q _ _ _ rfl s1 (itOk_revT h1 a1)⟩⟩
  | _ => exact q.elim
end
end Pv

/-! Pv, part L: comprehensions. -/
namespace Pv
open PySem PySem.Spec PyProof.Rows L2
section
variable {G : Gt} {C : Ct} {N : List Str} {sc : Scope} {X : Cx} {Γ : List OT}
/-- within a comprehension: nothing is raised -/
def Ct.blk (C : Ct) : Ct := { C with xc := ⟨fun _ => False, fun _ => none, []⟩, EX := fun _ _ => False }
theorem Ct.blk_sm {H : Hp} : C.blk.xc.Sm H := fun a o h => by cases h
theorem XF.blk (F : XF G C N sc X) (s : Shared) (H : Hp) (scope : Scope) (Cc : Addr) (cl : List (Str × Addr)) (fp : List Addr) : XF G C.blk N (relS scope sc) (X.blk s H scope (compEnvC scope cl Cc X.env) fp) where
  K := F.K
  calm := F.calm
  nd := F.nd
  N := F.N
  sc := by rw [← F.sc]; rfl
  room := F.room
  ff := F.ff
  hx := passes_call takes0 fun cls d σ H h => by
    obtain ⟨_, _, _, _, z⟩ := h
    exact z
/-- a slot that stands still owns nothing -/
theorem Sl.fz_at {T : Tb} {A H : Hp} : ∀ {Γ : List OT} {fs : List (List Addr)} {σ : L2.St} {env : Env} (i : Nat), Sl T A H Γ fs σ env → ((Γ[i]?).getD .fz).isFz = true → Γ.set i .fz = Γ ∧ fs.set i [] = fs
  | _, _, _, _, _, .nil, _ => ⟨rfl, rfl⟩
  | t :: _, _, _, _, 0, .no r, h => by
    have h' : t.isFz = true := h
    cases t <;> first | exact ⟨rfl, rfl⟩ | cases h'
  | t :: _, _, _, _, 0, .is o r, h => by
    have h' : t.isFz = true := h
    cases o <;> first | exact ⟨rfl, rfl⟩ | cases h'
  | _, _, _, _, i + 1, .no r, h => by
    obtain ⟨a, b⟩ := Sl.fz_at i r (by simpa using h)
    exact ⟨by rw [List.set_cons_succ, a], by rw [List.set_cons_succ, b]⟩
  | _, _, _, _, i + 1, .is _ r, h => by
    obtain ⟨a, b⟩ := Sl.fz_at i r (by simpa using h)
    exact ⟨by rw [List.set_cons_succ, a], by rw [List.set_cons_succ, b]⟩
theorem SO.wipe {T : Tb} {c : Cfg} {fs : List (List Addr)} {H : Hp} {σ : L2.St} {env : Env} (so : SO T c Γ fs H σ env) : ∀ {vs : List Nat}, (∀ i ∈ vs, ((Γ[i]?).getD .fz).isFz = true) → SO T c Γ fs H (L2.wipe σ vs) (wipeE env vs)
  | [], _ => so
  | v :: vs, h => by
    have s1 := SO.wipe so fun i hi => h i (List.mem_cons_of_mem _ hi)
    obtain ⟨e1, e2⟩ := s1.sl.fz_at v (h v List.mem_cons_self)
    have := (s1.unset v).1
    rw [e1, e2] at this
    exact this
theorem setAll_id {α : Type} {x : α} : ∀ {vs : List Nat} {l : List α}, (∀ i ∈ vs, l.set i x = l) → setAll x l vs = l
  | [], _, _ => rfl
  | v :: vs, l, h => by
    show setAll x (l.set v x) vs = l
    rw [h v List.mem_cons_self]
    exact setAll_id fun i hi => h i (List.mem_cons_of_mem _ hi)
/-- a turn of a comprehension, in plain data -/
def turn1 (S : Sem1) (env' : Env) (e : IE) (c : IE) : Option (Option D) := match c with
    | .nil => stepC (ev S env' e)
    | c => condC (ev S env' c) (ev S env' e)
def turnC (S : Sem1) (env : Env) (e : IE) (t : Tg) (c : IE) (d : D) : Option (Option D) := envO (bindT t d (wipeE env t.own)) fun env' => turn1 S env' e c
theorem turn1_c {S : Sem1} {env : Env} {e c : IE} (h : c ≠ .nil) : turn1 S env e c = condC (ev S env c) (ev S env e) := by
  cases c <;> first | exact absurd rfl h | rfl
theorem ev_lc {S : Sem1} {env : Env} {e it c : IE} {t : Tg} : ev S env (.lc e t it c) = lcD (ev S env it) (turnC S env e t c) := by cases c <;> rfl
theorem Pst.lc {EX : Str → List D → Prop} {K : D → Prop} {r : R} {f : D → Option (Option D)} (h : Pst EX K (lcD r f)) : Pst EX (fun d => ∃ ds l, d = .tup ds ∧ ds.length ≤ lim ∧ mapO f ds = some l ∧ K (.lst l)) r := by
  refine (Pst.arg h).imp fun d ⟨ds, e, q⟩ => ?_
  split at q
  · rename_i hl
    split at q
    · rename_i l el
      exact ⟨ds, l, e, hl, el, q⟩
    · exact q.elim
  · exact q.elim
/-- all that a comprehension's walk leans on -/
def LcB (X : Cx) (elt tg iter : Expr) (ifs : List Expr) (scope : Scope) (t : TE) : Prop := ∃ (own : List (Str × Nat)) (wi : TI) (g : TG) (tt : TT) (te : TE), PI X tg iter wi ∧ BlkOk X.N X.env.scope scope own ∧
  (∀ (s : Shared) (H : Hp) (Cc : Addr) (cl : List (Str × Addr)) (fp : List Addr), PG (X.blk s H scope (compEnvC scope cl Cc X.env) fp) tg g) ∧
  (∀ (s : Shared) (H : Hp) (Cc : Addr) (cl : List (Str × Addr)) (fp : List Addr), PTs (X.blk s H scope (compEnvC scope cl Cc X.env) fp) ifs tt) ∧
  (∀ (s : Shared) (H : Hp) (Cc : Addr) (cl : List (Str × Addr)) (fp : List Addr), PE (X.blk s H scope (compEnvC scope cl Cc X.env) fp) elt te) ∧
  (∀ x, foldedSetIterable iter X.env x = pure x) ∧ ∀ σ H Q, t σ H Q → tLc wi g tt te (own.map (·.2)) σ H Q
/-- what a turn wants: the target's binding, the test, the item -/
theorem snd_lcB (F : XF G C N sc X) {elt tg iter : Expr} {ifs : List Expr} {scope : Scope} {e it c : IE} {t : Tg} {te : OT} {tt : TT} (hfold : ∀ x, foldedSetIterable iter X.env x = pure x) (hi : PI X tg iter (rI C Γ it))
    (ok : blkC N sc scope (blkOwn N t) = true) (hz : (t.own.all fun i => ((Γ[i]?).getD .fz).isFz) = true)
    (hg : ∀ (s : Shared) (H : Hp) (Cc : Addr) (cl : List (Str × Addr)) (fp : List Addr), PG (X.blk s H scope (compEnvC scope cl Cc X.env) fp) tg (rG C.blk t))
    (ht : ∀ (s : Shared) (H : Hp) (Cc : Addr) (cl : List (Str × Addr)) (fp : List Addr), PTs (X.blk s H scope (compEnvC scope cl Cc X.env) fp) ifs tt)
    (he : ∀ (s : Shared) (H : Hp) (Cc : Addr) (cl : List (Str × Addr)) (fp : List Addr), PE (X.blk s H scope (compEnvC scope cl Cc X.env) fp) elt (rE C.blk Γ te e))
    (htt : (c = .nil ∧ tt = tYes) ∨ (c ≠ .nil ∧ tt = rT C.blk Γ c)) : LcB X elt tg iter ifs scope (rE C Γ (.ol .fz) (.lc e t it c)) := by
  have hz' : ∀ i ∈ t.own, ((Γ[i]?).getD .fz).isFz = true := fun i hi => List.all_eq_true.mp hz i hi
  have eo : (blkOwn N t).map (·.2) = t.own := by
    unfold blkOwn
    rw [List.map_map]
    exact List.map_id _
  refine ⟨blkOwn N t, rI C Γ it, rG C.blk t, tt, rE C.blk Γ te e, hi, blkOk_by (by rw [F.N, F.sc]; exact ok), hg, ht, he, hfold, fun σ H Q q => ?_⟩
  rw [eo]
  obtain ⟨cf, fs, env, so, sm, p⟩ := q
  rw [ev_lc] at p
  refine ⟨cf, fs, env, so, sm, (Pst.lc p).imp fun d ⟨ds, l, ed, hlim, hmap, fin⟩ items J H1 e1 s1 itok q0 nD => ?_⟩
  rw [ed] at e1
  obtain rfl : ds = items := by injection e1
  obtain ⟨g, Y, w, hgs, hy⟩ := itok
  have nDH : H q0 = none := s1.free nD
  -- the frame without the new list
  have so1 := so.mono s1
  have so2 : SO C.T { cf with U := fun a => cf.U a ∨ a ∈ [q0] } Γ fs (upd H1 q0 (.lst [])) σ env := so1.hide (same_upd nD) (fun a ha => by rw [List.mem_singleton] at ha; rw [ha]; exact nD) fun a ha => by rw [List.mem_singleton] at ha; rw [ha, upd_same]; simp
  have so3 := so2.wipe hz'
  have WD : q0 ∉ fs.flatten := fun h => so1.dom q0 h nD
  -- the part that stands still, ahead of the turns
  have A0 : Same (cf.A H1 fs.flatten) (Cfg.A { cf with U := fun a => cf.U a ∨ a ∈ [q0] } (upd H1 q0 (.lst [])) fs.flatten) := msk_mono (same_upd nD) fun a q => by
    rcases q with (q | q) | q
    · exact .inl (.inl q)
    · rw [List.mem_singleton] at q; rw [q]; exact .inr nD
    · exact .inl (.inr q)
  refine lc_it w (fun i Hc => ∃ av ad rest, Hc q0 = some (.lst av) ∧ RepA C.T (Cfg.A { cf with U := fun a => cf.U a ∨ a ∈ [q0] } Hc fs.flatten) av ad ∧ ad.length ≤ i ∧ mapO (turnC C.S env e t c) (ds.drop i) = some rest ∧ l = ad ++ rest ∧
      SO C.T { cf with U := fun a => cf.U a ∨ a ∈ [q0] } Γ fs Hc (L2.wipe σ t.own) (wipeE env t.own) ∧ Same H1 Hc ∧ Same (cf.A H1 fs.flatten) (Cfg.A { cf with U := fun a => cf.U a ∨ a ∈ [q0] } Hc fs.flatten))
    ⟨[], [], l, upd_same, .nil, Nat.le_refl _, hmap, rfl, so3, same_upd nD, A0⟩ (fun i Hc hi ⟨_, _, _, _, _, _, _, _, _, _, sA⟩ => hgs _ (sA.trans msk_same)) ?_ ?_
  · rintro i x Hc H' hi ⟨av, ad, rest, eD, ra, hl, hm, el, soc, sH, sA⟩ y
    obtain ⟨sy, hrep⟩ := hy i Hc x H' hi (sA.trans msk_same) y
    obtain ⟨d, ed, rd⟩ := hrep (fun a => (cf.U a ∨ a ∈ [q0]) ∨ a ∈ fs.flatten) (fun a q => q.elim (soc.dm a) (soc.dom a)) sA
    have soc' := soc.mono sy
    have edrop : ds.drop i = d :: ds.drop (i + 1) := by
      rw [List.drop_eq_getElem_cons hi]
      rw [List.getElem?_eq_getElem hi] at ed
      cases ed
      rfl
    rw [edrop] at hm
    -- what the turn does
    have hm' : (match turnC C.S env e t c d with
      | none => none
      | some none => mapO (turnC C.S env e t c) (ds.drop (i + 1))
      | some (some v) => (mapO (turnC C.S env e t c) (ds.drop (i + 1))).map (v :: ·)) = some rest := hm
    cases eb : bindT t d (wipeE env t.own) with
    | none =>
      have : turnC C.S env e t c d = none := by unfold turnC; rw [eb]; rfl
      rw [this] at hm'
      cases hm'
    | some env' =>
      have et : turnC C.S env e t c d = turn1 C.S env' e c := by unfold turnC; rw [eb]; rfl
      refine ⟨_, Γ, fs, wipeE env t.own, d, env', soc', rd, eb, fun σ2 so4 sA4 off => ?_⟩
      have f1 : setAll .fz Γ t.own = Γ := setAll_id fun j hj => (soc'.sl.fz_at j (hz' j hj)).1
      have f2 : setAll [] fs t.own = fs := setAll_id fun j hj => (soc'.sl.fz_at j (hz' j hj)).2
      rw [f1, f2] at so4
      rw [f2] at sA4
      refine ⟨by
        have z := off.wipe
        rw [z]
        apply List.ext_getElem?
        intro j
        rw [wipe_get, wipe_get]
        by_cases hj : j ∈ t.own
        · rw [if_pos hj]
          cases σ[j]? <;> simp [hj]
        · rw [if_neg hj], ?_⟩
      -- the item's turn
      have sAH : Same (Cfg.A { cf with U := fun a => cf.U a ∨ a ∈ [q0] } Hc fs.flatten) (Cfg.A { cf with U := fun a => cf.U a ∨ a ∈ [q0] } H' fs.flatten) := Cfg.A_mono sy
      have take : ∀ v, stepC (ev C.S env' e) = some (some v) → ∀ H3, Same H' H3 → (∃ r2, rest = v :: r2 ∧ mapO (turnC C.S env e t c) (ds.drop (i + 1)) = some r2) →
          rE C.blk Γ te e σ2 H3 fun y H4 => ∃ acc, H4 q0 = some (.lst acc) ∧ acc.length < sizeLine ∧ (∃ av ad rest, (upd H4 q0 (.lst (acc ++ [y]))) q0 = some (.lst av) ∧
            RepA C.T (Cfg.A { cf with U := fun a => cf.U a ∨ a ∈ [q0] } (upd H4 q0 (.lst (acc ++ [y]))) fs.flatten) av ad ∧ ad.length ≤ i + 1 ∧ mapO (turnC C.S env e t c) (ds.drop (i + 1)) = some rest ∧ l = ad ++ rest ∧
            SO C.T { cf with U := fun a => cf.U a ∨ a ∈ [q0] } Γ fs (upd H4 q0 (.lst (acc ++ [y]))) (L2.wipe σ t.own) (wipeE env t.own) ∧ Same H1 (upd H4 q0 (.lst (acc ++ [y]))) ∧
            Same (cf.A H1 fs.flatten) (Cfg.A { cf with U := fun a => cf.U a ∨ a ∈ [q0] } (upd H4 q0 (.lst (acc ++ [y]))) fs.flatten)) := fun v ev2 H3 s3 ⟨r2, er, em⟩ => by
        have so5 := so4.mono s3
        refine ⟨_, fs, env', so5, Ct.blk_sm, ?_⟩
        show Pst _ _ (ev C.S env' e)
        cases e3 : ev C.S env' e with
        | bad => rw [e3] at ev2; cases ev2
        | ex k es => rw [e3] at ev2; cases ev2
        | ok d' =>
          rw [e3] at ev2
          have : d' = v := by
            have z : some (some d') = some (some v) := ev2
            simpa using z
          subst this
          intro yv H4 s4 r4
          have rv := r4.rep so5
          have sc4 : Same Hc H4 := (sy.trans s3).trans s4
          have eD4 : H4 q0 = some (.lst av) := sc4 _ _ eD
          -- storing into the new list leaves what stands still
          have sU : ∀ o, Same (Cfg.A { cf with U := fun a => cf.U a ∨ a ∈ [q0] } H4 fs.flatten) (Cfg.A { cf with U := fun a => cf.U a ∨ a ∈ [q0] } (upd H4 q0 o) fs.flatten) := fun o a ob h => by
            obtain ⟨h1, h2⟩ := msk_some.mp h
            refine msk_some.mpr ⟨h1, ?_⟩
            rw [upd_ne fun e => h1 (.inl (.inr (by rw [e]; simp)))]
            exact h2
          have sA5 : Same (Cfg.A { cf with U := fun a => cf.U a ∨ a ∈ [q0] } Hc fs.flatten) (Cfg.A { cf with U := fun a => cf.U a ∨ a ∈ [q0] } H4 fs.flatten) := Cfg.A_mono sc4
          have ha : av.length ≤ i := by rw [ra.length]; exact hl
          refine ⟨av, eD4, Nat.lt_of_le_of_lt ha (Nat.lt_of_lt_of_le hi (Nat.le_trans hlim lim_le)), av ++ [yv], ad ++ [d'], r2, upd_same, ((ra.mono sA5).append (.cons rv .nil)).mono (sU _), by simp; omega, em, by rw [el, er]; simp, ?_, ?_, ?_⟩
          · have soc4 := soc.mono sc4
            refine ⟨soc4.sl.mono (sU _) fun a ha o h => ?_, soc4.nd, soc4.fr, soc4.un, fun a h => ?_, fun a o h k => ?_⟩
            · rw [upd_ne fun e => WD (by rw [← e]; exact ha)]; exact h
            · by_cases e : a = q0
              · rw [e, upd_same]; simp
              · rw [upd_ne e]; exact soc4.dm a h
            · rw [upd_ne fun e => ?_]
              · exact soc4.sm a o h k
              · subst e
                have z := so1.sm a o h k
                rw [nD] at z
                cases z
          · intro a o h
            rw [upd_ne (ne_of_none h nD)]
            exact sc4 _ _ (sH _ _ h)
          · exact (sA.trans sA5).trans (sU _)
      have skip : mapO (turnC C.S env e t c) (ds.drop (i + 1)) = some rest → ∀ H3, Same H' H3 → (∃ av ad rest, H3 q0 = some (.lst av) ∧ RepA C.T (Cfg.A { cf with U := fun a => cf.U a ∨ a ∈ [q0] } H3 fs.flatten) av ad ∧ ad.length ≤ i + 1 ∧ mapO (turnC C.S env e t c) (ds.drop (i + 1)) = some rest ∧ l = ad ++ rest ∧
          SO C.T { cf with U := fun a => cf.U a ∨ a ∈ [q0] } Γ fs H3 (L2.wipe σ t.own) (wipeE env t.own) ∧ Same H1 H3 ∧ Same (cf.A H1 fs.flatten) (Cfg.A { cf with U := fun a => cf.U a ∨ a ∈ [q0] } H3 fs.flatten)) := fun em H3 s3 =>
        ⟨av, ad, rest, (sy.trans s3) _ _ eD, ra.mono (Cfg.A_mono (sy.trans s3)), by omega, em, el, soc.mono (sy.trans s3), sH.trans (sy.trans s3), sA.trans (Cfg.A_mono (sy.trans s3))⟩
      rw [et] at hm'
      rcases htt with ⟨rfl, rfl⟩ | ⟨hc, rfl⟩
      · unfold tYes
        dsimp only
        rw [if_pos rfl]
        have hm2 : (match stepC (ev C.S env' e) with
          | none => none
          | some none => mapO (turnC C.S env e t .nil) (ds.drop (i + 1))
          | some (some v) => (mapO (turnC C.S env e t .nil) (ds.drop (i + 1))).map (v :: ·)) = some rest := hm'
        cases e3 : ev C.S env' e with
        | bad => rw [e3] at hm2; cases hm2
        | ex k es => rw [e3] at hm2; cases hm2
        | ok v =>
          rw [e3] at hm2
          have hm3 : (mapO (turnC C.S env e t .nil) (ds.drop (i + 1))).map (v :: ·) = some rest := hm2
          obtain ⟨r2, h1, h2⟩ := Option.map_eq_some_iff.mp hm3
          exact take v (by rw [e3]; rfl) H' (Same.refl _) ⟨r2, h2.symm, h1⟩
      · rw [turn1_c hc] at hm'
        have hm2 : (match condC (ev C.S env' c) (ev C.S env' e) with
          | none => none
          | some none => mapO (turnC C.S env e t c) (ds.drop (i + 1))
          | some (some v) => (mapO (turnC C.S env e t c) (ds.drop (i + 1))).map (v :: ·)) = some rest := hm'
        refine ⟨_, fs, env', so4, Ct.blk_sm, ?_⟩
        show Pst _ _ (ev C.S env' c)
        cases e4 : ev C.S env' c with
        | bad => rw [e4] at hm2; cases hm2
        | ex k es => rw [e4] at hm2; cases hm2
        | ok dc =>
          rw [e4] at hm2
          cases dc with
          | bl b =>
            refine ⟨b, rfl, fun H3 s3 => ?_⟩
            cases b with
            | true =>
              rw [if_pos rfl]
              have hm3 : (match stepC (ev C.S env' e) with
                | none => none
                | some none => mapO (turnC C.S env e t c) (ds.drop (i + 1))
                | some (some v) => (mapO (turnC C.S env e t c) (ds.drop (i + 1))).map (v :: ·)) = some rest := hm2
              cases e3 : ev C.S env' e with
              | bad => rw [e3] at hm3; cases hm3
              | ex k es => rw [e3] at hm3; cases hm3
              | ok v =>
                rw [e3] at hm3
                have hm4 : (mapO (turnC C.S env e t c) (ds.drop (i + 1))).map (v :: ·) = some rest := hm3
                obtain ⟨r2, h1, h2⟩ := Option.map_eq_some_iff.mp hm4
                exact take v (by rw [e3]; rfl) H3 s3 ⟨r2, h2.symm, h1⟩
            | false =>
              rw [if_neg Bool.false_ne_true]
              exact skip hm2 H3 s3
          | _ => cases hm2
  · rintro Hc ⟨av, ad, rest, eD, ra, hl, hm, el, soc, sH, sA⟩
    have : ds.drop ds.length = [] := by simp
    rw [this] at hm
    have er : rest = [] := by
      have z : some ([] : List Pv.D) = some rest := hm
      simpa using z.symm
    subst er
    rw [List.append_nil] at el
    subst el
    refine fin _ _ (s1.trans sH) ⟨[q0], by simp, fun a ha => by rw [List.mem_singleton] at ha; rw [ha]; exact nDH, .ol eD (.of_rep (ra.mono (msk_mono (Same.refl _) fun a q => .inl ?_)))⟩
    rcases q with q | q
    · exact .inl (.inl q)
    · rcases List.mem_append.mp q with q | q
      · exact .inr q
      · exact .inl (.inr q)
theorem LcB.pe (F : XF G C N sc X) {elt tg iter : Expr} {ifs : List Expr} {scope : Scope} {pos : Pos} {t : TE} (h : LcB X elt tg iter ifs scope t) : PE X (.ListComp elt [⟨tg, iter, ifs, 0⟩] scope pos) t := by
  obtain ⟨own, wi, g, tt, te, hi, ok, hg, ht, he, hs, im⟩ := h
  exact PE.imp (pe_lc F.calm (by rw [F.N]; exact F.nd) hi ok hg ht he hs) im
end
end Pv

/-! Pv, part M: expressions of the text compute what the small language says. -/
namespace Pv
open PySem PySem.Spec PyProof.Rows L2
theorem and2 {a b : Bool} (h : (a && b) = true) : a = true ∧ b = true := Bool.and_eq_true_iff.mp h
theorem fold_ok {iter : Expr} {env : PySem.Env} (h : noSet iter = true) : ∀ x, foldedSetIterable iter env x = pure x := by
  cases iter <;> first | (intro x; rfl) | cases h
section
variable {G : Gt} {C : Ct} {N : List Str} {sc : Scope} {X : Cx} {Γ : List OT}
theorem sndT_ife {x y z : Expr} {pos : Pos} {c a b : IE} (hc : PT X z (rT C Γ c)) (ha : PT X x (rT C Γ a)) (hb : PT X y (rT C Γ b)) : PT X (.IfExp z x y pos) (rT C Γ (.ife c a b)) := by
  refine ⟨fun pins s σ H Q I h => ?_⟩
  have h' : rT C Γ c σ H fun k H1 => if k = true then rT C Γ a σ H1 Q else rT C Γ b σ H1 Q := by
    obtain ⟨cf, fs, env, so, sm, p⟩ := h
    refine ⟨cf, fs, env, so, sm, (Pst.bind p).imp fun x k => ?_⟩
    cases x with
    | bl y =>
      refine ⟨y, rfl, fun H1 s1 => ?_⟩
      cases y with
      | true =>
        rw [if_pos rfl]
        exact ⟨cf, fs, env, so.mono s1, sm.mono s1, Pst.imp k fun d ⟨b, e, q⟩ => ⟨b, e, fun H2 s2 => q H2 (s1.trans s2)⟩⟩
      | false =>
        rw [if_neg Bool.false_ne_true]
        exact ⟨cf, fs, env, so.mono s1, sm.mono s1, Pst.imp k fun d ⟨b, e, q⟩ => ⟨b, e, fun H2 s2 => q H2 (s1.trans s2)⟩⟩
    | _ => exact k.elim
  refine isTrue_IfExp (thn (hc.run pins s σ H _ I h') fun d s1 ⟨H1, I1, q1⟩ => ?_)
  cases d with
  | true => exact ha.run pins s1 σ H1 Q I1 q1
  | false => exact hb.run pins s1 σ H1 Q I1 q1
end
def M1 (G : Gt) (N : List Str) (sc : Scope) (e : IE) (x : Expr) : Prop := ∀ {C : Ct} {X : Cx} {Γ : List OT}, XF G C N sc X → okE Γ e = true → chkE G N sc e x = true → PE X x (rE C Γ (tyE G Γ e) e) ∧ PT X x (rT C Γ e)
def M2 (G : Gt) (N : List Str) (sc : Scope) (e : IE) (tg x : Expr) : Prop := ∀ {C : Ct} {X : Cx} {Γ : List OT}, XF G C N sc X → okE Γ e = true → chkI G N sc e tg x = true → PI X tg x (rI C Γ e)
def M3 (G : Gt) (N : List Str) (sc : Scope) (e : IE) (xs : List Expr) : Prop := ∀ {C : Ct} {X : Cx} {Γ : List OT}, XF G C N sc X → okE Γ e = true → chkA G N sc e xs = true → PA X xs (rA C Γ (tyL G Γ e) e)
def M4 (G : Gt) (N : List Str) (sc : Scope) (op : PySem.BoolOp) (e : IE) (xs : List Expr) : Prop := ∀ {C : Ct} {X : Cx} {Γ : List OT} {pos : Pos}, XF G C N sc X → okE Γ e = true → chkO G N sc op e xs = true → PE X (.BoolOp op xs pos) (rE C Γ .fz e) ∧ PW X (.BoolOp op xs pos) (rT C Γ e)
section
variable {G : Gt} {C : Ct} {N : List Str} {sc : Scope} {X : Cx} {Γ : List OT}
theorem both {x : Expr} {a : IE} {t : OT} (hv : valB x = true) (h : PE X x (rE C Γ t a)) : PE X x (rE C Γ t a) ∧ PT X x (rT C Γ a) := ⟨h, sndT_val hv h⟩
theorem pe_fz {x : Expr} {a : IE} {t : OT} (h : PE X x (rE C Γ t a)) : PE X x (rE C Γ .fz a) := PE.imp h fun σ H Q q => by
  obtain ⟨c, fs, env, so, sm, p⟩ := q
  exact ⟨c, fs, env, so, sm, p.imp fun d k v H1 s1 r1 => k v H1 s1 (r1.fz so)⟩
theorem pe_one1 {op : PySem.BoolOp} {x : Expr} {pos : Pos} {a : IE} {t : OT} (h : PE X x (rE C Γ t a)) : PE X (.BoolOp op [x] pos) (rE C Γ .fz a) := pe_one (pe_fz h)
theorem bltT_fz {b : Blt} {as : IE} {tn : String} (h : typN b = some tn) : tyE G Γ (.blt b as) = .fz := by
  cases b <;> first | (cases h; done) | rfl
theorem tyE_ix (a i : IE) : (∃ (k : Nat) (ts : List OT), i = .ct (.int (Int.ofNat k)) ∧ tyE G Γ a = .ot ts ∧ tyE G Γ (.ix a i) = (ts[k]?).getD .fz) ∨ tyE G Γ (.ix a i) = .fz := by
  cases i
  case ct d =>
    cases d
    case int n =>
      cases n
      case ofNat k =>
        cases h : tyE G Γ a
        case ot ts => exact .inl ⟨k, ts, rfl, rfl, by simp only [tyE, h]⟩
        all_goals (right; simp only [tyE, h])
      all_goals (right; simp only [tyE])
    all_goals (right; simp only [tyE])
  all_goals (right; simp only [tyE])
theorem cstB_int {i : Int} {c : PySem.Const} (h : cstB (.int i) c = true) : c = .int i := by
  cases c <;> simp [cstB] at h
  rw [h]
theorem tyE_vr {j : Nat} {i : IE} (h : ∀ ts, (Γ[j]?).getD .fz ≠ .ot ts) : tyE G Γ (.ix (.vr j) i) = .fz := by
  rcases tyE_ix (G := G) (Γ := Γ) (.vr j) i with ⟨k, ts, _, e, _⟩ | e
  · exact absurd e (h ts)
  · exact e
theorem snd_all (G : Gt) (N : List Str) : (∀ sc e x, M1 G N sc e x) ∧ (∀ sc e tg x, M2 G N sc e tg x) ∧ (∀ sc op e xs, M4 G N sc op e xs) ∧ (∀ sc e xs, M3 G N sc e xs) := by
  apply chkE.mutual_induct (motive_1 := M1 G N) (motive_2 := M2 G N) (motive_3 := M4 G N) (motive_4 := M3 G N)
  case case1 =>
    intro sc i x pos C X Γ F ok h
    simp only [chkE, Bool.and_eq_true, decide_eq_true_eq] at h
    exact both rfl (snd_vr F h.1.1 h.1.2 h.2 ok)
  case case2 =>
    intro sc d c k pos C X Γ F ok h
    exact both rfl (snd_ct F h)
  case case3 =>
    intro sc x d y pos C X Γ F ok h
    simp only [chkE, Bool.and_eq_true, decide_eq_true_eq, List.any_eq_true] at h
    obtain ⟨⟨⟨rfl, h1⟩, h2⟩, p, hp, e1, e2⟩ := h
    obtain ⟨px, pd⟩ := p
    have e2 := D.beq_of e2
    dsimp only at e1 e2
    subst e1 e2
    exact both rfl (snd_gl F h1 h2 hp)
  case case4 =>
    intro sc as es k pos ih C X Γ F ok h
    exact both rfl (snd_tp (ih F ok h))
  case case5 =>
    intro sc as es pos ih C X Γ F ok h
    exact both rfl (snd_ls (ih F ok h))
  case case6 =>
    intro sc o a b x op y pos iha ihb C X Γ F ok h
    simp only [chkE, Bool.and_eq_true] at h
    have ok' := and2 ok
    exact both rfl (snd_bin F h.1.1 (iha F ok'.1 h.1.2).1 (ihb F ok'.2 h.2).1)
  case case7 =>
    intro sc a x pos ih C X Γ F ok h
    exact both rfl (snd_neg F (ih F ok h).1)
  case case8 =>
    intro sc o a b x op y pos iha ihb C X Γ F ok h
    simp only [chkE, Bool.and_eq_true] at h
    have ok' := and2 ok
    exact ⟨snd_cmp F h.1.1 (iha F ok'.1 h.1.2).1 (ihb F ok'.2 h.2).1, sndT_cmp F h.1.1 (iha F ok'.1 h.1.2).1 (ihb F ok'.2 h.2).1⟩
  case case9 =>
    intro sc o p a b c x op op' y z pos iha ihb ihc C X Γ F ok h
    simp only [chkE, Bool.and_eq_true] at h
    have ok' := and2 ok
    have ok2 := and2 ok'.1
    exact snd_cmp2 F h.1.1.1.1 h.1.1.1.2 (iha F ok2.1 h.1.1.2).1 (ihb F ok2.2 h.1.2).1 (ihc F ok'.2 h.2).1
  case case10 =>
    intro sc a x k p q ih C X Γ F ok h
    exact snd_isN F (ih F ok h).1
  case case11 =>
    intro sc a x k p q ih C X Γ F ok h
    exact snd_ntN F (ih F ok h).1
  case case12 =>
    intro sc a b x y pos iha ihb C X Γ F ok h
    simp only [chkE, Bool.and_eq_true] at h
    have ok' := and2 ok
    have h1 := iha F ok'.1 h.1
    have h2 := ihb F ok'.2 h.2
    exact ⟨snd_conj (op := .And) h1.1 (pe_one1 h2.1), (sndW_conj (op := .And) h1.2 (sndW_one h2.2)).pt⟩
  case case13 =>
    intro sc a b x y z r pos iha ihb C X Γ F ok h
    simp only [chkE, Bool.and_eq_true] at h
    have ok' := and2 ok
    have h1 := iha F ok'.1 h.1
    have h2 := ihb (pos := pos) F ok'.2 h.2
    exact ⟨snd_conj (op := .And) h1.1 h2.1, (sndW_conj (op := .And) h1.2 h2.2).pt⟩
  case case14 =>
    intro sc a b x y pos iha ihb C X Γ F ok h
    simp only [chkE, Bool.and_eq_true] at h
    have ok' := and2 ok
    have h1 := iha F ok'.1 h.1
    have h2 := ihb F ok'.2 h.2
    exact ⟨snd_conj (op := .Or) h1.1 (pe_one1 h2.1), (sndW_conj (op := .Or) h1.2 (sndW_one h2.2)).pt⟩
  case case15 =>
    intro sc a b x y z r pos iha ihb C X Γ F ok h
    simp only [chkE, Bool.and_eq_true] at h
    have ok' := and2 ok
    have h1 := iha F ok'.1 h.1
    have h2 := ihb (pos := pos) F ok'.2 h.2
    exact ⟨snd_conj (op := .Or) h1.1 h2.1, (sndW_conj (op := .Or) h1.2 h2.2).pt⟩
  case case16 =>
    intro sc a x pos ih C X Γ F ok h
    have h1 := ih F ok h
    exact ⟨snd_not h1.1, sndT_not h1.2⟩
  case case17 =>
    intro sc c a b z x y pos ihc iha ihb C X Γ F ok h
    simp only [chkE, Bool.and_eq_true] at h
    have ok' := and2 ok
    have ok2 := and2 ok'.1
    have h1 := ihc F ok2.1 h.1.1
    have h2 := iha F ok2.2 h.1.2
    have h3 := ihb F ok'.2 h.2
    exact ⟨snd_ife h1.2 h2.1 h3.1, sndT_ife h1.2 h2.2 h3.2⟩
  case case18 =>
    intro sc j as x pos es p2 ih C X Γ F ok h
    simp only [chkE, Bool.and_eq_true, decide_eq_true_eq] at h
    obtain ⟨⟨⟨⟨h1, h2⟩, h3⟩, h4⟩, h5⟩ := h
    have ha := ih F ok h5
    have hp := chkA_plain h5
    cases es with
    | nil =>
      cases as with
      | nil => exact both rfl (snd_call0 F h1 h2 h3 h4)
      | _ => simp [chkA] at h5
    | cons e es => exact both rfl (snd_call F h1 h2 h3 h4 hp ha)
  case case19 =>
    intro sc as x pos e es p2 ih C X Γ F ok h
    simp only [chkE, Bool.and_eq_true, decide_eq_true_eq] at h
    obtain ⟨⟨⟨h1, rfl⟩, h3⟩, h5⟩ := h
    exact both rfl (snd_gcd F h1 h3 (chkA_plain h5) (ih F ok h5))
  case case20 =>
    intro sc b a x pos e ty p1 p2 hb tn htn ih C X Γ F ok h
    rw [chkE, htn] at h
    case x_3 => exact hb
    simp only [Bool.and_eq_true, decide_eq_true_eq] at h
    obtain ⟨⟨⟨⟨⟨⟨⟨rfl, h1⟩, h2⟩, rfl⟩, h3⟩, h4⟩, h6⟩, h5⟩ := h
    have ok' : okE Γ a = true := by
      cases b <;> first | (cases htn; done) | exact (and2 ok).1
    rw [bltT_fz htn]
    exact both rfl (snd_isi F htn h1 (inB_of h2) h3 (inB_of h4) h6 (ih F ok' h5).1)
  case case21 =>
    intro sc b a x pos e ty p1 p2 hb htn C X Γ F ok h
    rw [chkE, htn] at h
    · cases h
    · exact hb
  case case22 =>
    intro sc b as x pos e es p1 hb hx y hy ih C X Γ F ok h
    rw [chkE, hy] at h
    · simp only [Bool.and_eq_true, decide_eq_true_eq] at h
      obtain ⟨⟨⟨rfl, h1⟩, h2⟩, h5⟩ := h
      rw [bltT_of]
      by_cases ok' : okE Γ as = true
      · exact both rfl (snd_blt F hy rfl h1 (inB_of h2) (chkA_plain h5) (ih F ok' h5))
      · have hl : ∃ i, b = .len ∧ as = .cons (.vr i) .nil := by
          unfold okE at ok
          split at ok
          all_goals first
            | (rename_i e; injection e; rename_i e1 e2; exact ⟨_, e1, e2⟩)
            | (rename_i e; cases e; done)
            | (rename_i e _; injection e with e1 e2; subst e1 e2; exact absurd ok ok')
            | (rename_i _ e; injection e with e1 e2; subst e1 e2; exact absurd ok ok')
        obtain ⟨i, rfl, rfl⟩ := hl
        cases hy
        cases es with
        | cons e2 es => simp [chkA] at h5
        | nil =>
          simp only [chkA, Bool.and_eq_true] at h5
          obtain ⟨⟨q1, q2⟩, _⟩ := h5
          unfold chkE at q2
          split at q2
          · rename_i e1
            injection e1 with e1
            subst e1
            simp only [Bool.and_eq_true, decide_eq_true_eq] at q2
            exact both rfl (snd_lenV F q2.1.1 q2.1.2 q2.2 h1 (inB_of h2))
          all_goals first | (rename_i e _; cases e; done) | (rename_i e; cases e; done) | (cases q2; done)
    · exact hb
    · exact hx
  case case23 =>
    intro sc b as x pos es e p1 hb hx hy C X Γ F ok h
    rw [chkE, hy] at h
    · cases h
    · exact hb
    · exact hx
  case case24 =>
    intro sc a i x y pos iha ihi C X Γ F ok h
    simp only [chkE, Bool.and_eq_true] at h
    obtain ⟨⟨h1, h2⟩, h3⟩ := h
    refine both rfl ?_
    by_cases hv : ∃ j, a = .vr j
    · obtain ⟨j, rfl⟩ := hv
      rw [okE] at ok
      obtain ⟨ok1, ok2⟩ := and2 ok
      have hx : ∃ x' p', x = .Name x' p' ∧ N[j]? = some x' ∧ visB sc x' = true ∧ okN x' = true := by
        unfold chkE at h2
        split at h2
        · rename_i e
          injection e with e
          subst e
          simp only [Bool.and_eq_true, decide_eq_true_eq] at h2
          exact ⟨_, _, rfl, h2.1.1, h2.1.2, h2.2⟩
        all_goals first | (rename_i e _; cases e; done) | (rename_i e; cases e; done) | (cases h2; done)
      split at ok1
      · rename_i e
        have := iha F (by rw [okE, e]; rfl) h2
        rw [tyE_vr (by rw [e]; exact fun _ h => by cases h)]
        exact snd_ix F h1 this.1 (ihi F ok2 h3).1
      · rename_i e
        obtain ⟨x', p', rfl, q1, q2, q3⟩ := hx
        rw [tyE_vr (by rw [e]; exact fun _ h => by cases h)]
        exact snd_ixV F q1 q2 q3 e h1 (ihi F ok2 h3).1
      · cases ok1
    · have ok' : okE Γ a = true ∧ okE Γ i = true := by
        rw [okE] at ok
        · exact and2 ok
        · exact fun j e => hv ⟨j, e⟩
      rcases tyE_ix (G := G) (Γ := Γ) a i with ⟨k, ts, rfl, e1, e2⟩ | e
      · have hy : ∃ j p', y = .Constant (.int (k : Int)) j p' := by
          unfold chkE at h3
          split at h3
          all_goals first
            | (rename_i e; injection e with e; subst e; rw [cstB_int h3]; exact ⟨_, _, rfl⟩)
            | (rename_i e _; cases e; done) | (rename_i e; cases e; done) | (cases h3; done)
        obtain ⟨j, p', rfl⟩ := hy
        rw [e2]
        have := (iha F ok'.1 h2).1
        rw [e1] at this
        exact snd_ixO F this
      · rw [e]
        exact snd_ix F h1 (iha F ok'.1 h2).1 (ihi F ok'.2 h3).1
  case case25 =>
    intro sc a lo hi x l h pos p2 iha ihl ihh C X Γ F ok hc
    simp only [chkE, Bool.and_eq_true] at hc
    have ok' := and2 ok
    have ok2 := and2 ok'.1
    exact both rfl (snd_sl F (iha F ok2.1 hc.1.1).1 (ihl F ok2.2 hc.1.2).1 (ihh F ok'.2 hc.2).1)
  case case26 =>
    intro sc a lo x l pos p2 iha ihl C X Γ F ok hc
    simp only [chkE, Bool.and_eq_true] at hc
    have ok' := and2 ok
    exact both rfl (snd_slF F (iha F ok'.1 hc.1).1 (ihl F ok'.2 hc.2).1)
  case case27 =>
    intro sc a hi x h pos p2 iha ihh C X Γ F ok hc
    simp only [chkE, Bool.and_eq_true] at hc
    have ok' := and2 ok
    exact both rfl (snd_slT F (iha F ok'.1 hc.1).1 (ihh F ok'.2 hc.2).1)
  case case28 =>
    intro sc e t it c x tg iter ifs scope pos ihi ihe ihc C X Γ F ok h
    rw [chkE.eq_def] at h
    simp only [Bool.and_eq_true] at h
    obtain ⟨⟨⟨⟨⟨h1, h2⟩, h3⟩, h4⟩, h5⟩, h6⟩ := h
    have ok1 := and2 ok
    have ok2 := and2 ok1.1
    have ok3 := and2 ok2.1
    refine both rfl ?_
    have hfn : ∀ (s : Shared) (H : Hp) (Cc : Addr) (cl : List (Str × Addr)) (fp : List Addr) (x : Str), (scope.names.lookup x == some .cell) = true → (X.blk s H scope (compEnvC scope cl Cc X.env) fp).fn x = true := fun s H Cc cl fp x hx => hx
    by_cases hc : c = .nil
    · subst hc
      have : ifs = [] := by
        split at h6
        · rfl
        · simp at h6
        · cases h6
      subst this
      exact (snd_lcB F (fold_ok h2) (ihi F ok3.1 h3) h1 ok3.2 (fun s H Cc cl fp => sndG (F.blk s H scope Cc cl fp) (hfn s H Cc cl fp) t tg h4) (fun s H Cc cl fp => pts_nil) (fun s H Cc cl fp => (ihe (F.blk s H scope Cc cl fp) ok2.2 h5).1) (.inl ⟨rfl, rfl⟩)).pe F
    · have : ∃ i, ifs = [i] ∧ chkE G N (relS scope sc) c i = true := by
        split at h6
        · split at h6
          · exact absurd rfl hc
          · cases h6
        · rename_i i
          split at h6
          · cases h6
          · exact ⟨i, rfl, h6⟩
        · cases h6
      obtain ⟨i, rfl, h7⟩ := this
      exact (snd_lcB F (fold_ok h2) (ihi F ok3.1 h3) h1 ok3.2 (fun s H Cc cl fp => sndG (F.blk s H scope Cc cl fp) (hfn s H Cc cl fp) t tg h4) (fun s H Cc cl fp => pts_one (ihc i (F.blk s H scope Cc cl fp) ok1.2 h7).2) (fun s H Cc cl fp => (ihe (F.blk s H scope Cc cl fp) ok2.2 h5).1) (.inr ⟨hc, rfl⟩)).pe F
  case case29 =>
    intro t sc x
    unfold M1
    intros
    rename_i h
    rw [chkE] at h
    · cases h
    all_goals assumption
  case case30 =>
    intro sc a x x1 pos e p1 ih C X Γ F ok h
    simp only [chkI, Bool.and_eq_true, decide_eq_true_eq] at h
    obtain ⟨⟨⟨⟨rfl, h1⟩, h2⟩, h3⟩, h4⟩ := h
    exact sndI_rng1 F h1 (inB_of h2) h3 (ih F (and2 ok).1 h4).1
  case case31 =>
    intro sc a b x x1 pos e f p1 ih ih2 C X Γ F ok h
    simp only [chkI, Bool.and_eq_true, decide_eq_true_eq] at h
    obtain ⟨⟨⟨⟨⟨⟨rfl, h1⟩, h2⟩, h3⟩, h4⟩, h5⟩, h6⟩ := h
    exact sndI_rng2 F h1 (inB_of h2) h3 h4 (ih F (and2 ok).1 h5).1 (ih2 F (and2 (and2 ok).2).1 h6).1
  case case32 =>
    intro sc a b elts k pos x1 p1 e f p2 ih ih2 C X Γ F ok h
    simp only [chkI, Bool.and_eq_true, decide_eq_true_eq] at h
    obtain ⟨⟨⟨⟨⟨⟨rfl, h1⟩, h2⟩, h3⟩, h4⟩, h5⟩, h6⟩ := h
    exact sndI_zip F h1 (inB_of h2) h3 h4 (ih F (and2 ok).1 h5).1 (ih2 F (and2 (and2 ok).2).1 h6).1
  case case33 =>
    intro sc a elts k pos x1 p1 e p2 ih C X Γ F ok h
    simp only [chkI, Bool.and_eq_true, decide_eq_true_eq] at h
    obtain ⟨⟨⟨⟨rfl, h1⟩, h2⟩, h3⟩, h4⟩ := h
    exact sndI_enu F h1 (inB_of h2) h3 (ih F (and2 ok).1 h4).1
  case case34 =>
    intro sc a x x1 pos e p1 ih C X Γ F ok h
    simp only [chkI, Bool.and_eq_true, decide_eq_true_eq] at h
    obtain ⟨⟨⟨⟨rfl, h1⟩, h2⟩, h3⟩, h4⟩ := h
    exact sndI_rev F h1 (inB_of h2) h3 (ih F (and2 ok).1 h4).1
  case case35 =>
    intro sc a x e ih C X Γ F ok h
    simp only [chkI, Bool.and_eq_true] at h
    exact sndI_val F (ih F (and2 ok).1 h.2).1
  case case36 =>
    intro t sc x y
    unfold M2
    intros
    rename_i h
    rw [chkI] at h
    · cases h
    all_goals assumption
  case case37 =>
    intro sc op a b y z iha ihb C X Γ pos F ok h
    simp only [chkO, Bool.and_eq_true] at h
    obtain ⟨⟨h0, h1⟩, h2⟩ := h
    have ok' := and2 ok
    have h1 := iha F ok'.1 h1
    have h2 := ihb F ok'.2 h2
    cases op with
    | And => exact ⟨snd_conj (op := .And) h1.1 (pe_one1 h2.1), sndW_conj (op := .And) h1.2 (sndW_one h2.2)⟩
    | Or => cases h0
  case case38 =>
    intro sc op a b y z iha ihb C X Γ pos F ok h
    simp only [chkO, Bool.and_eq_true] at h
    obtain ⟨⟨h0, h1⟩, h2⟩ := h
    have ok' := and2 ok
    have h1 := iha F ok'.1 h1
    have h2 := ihb F ok'.2 h2
    cases op with
    | And => cases h0
    | Or => exact ⟨snd_conj (op := .Or) h1.1 (pe_one1 h2.1), sndW_conj (op := .Or) h1.2 (sndW_one h2.2)⟩
  case case39 =>
    intro sc op a b y z w r iha ihb C X Γ pos F ok h
    simp only [chkO, Bool.and_eq_true] at h
    obtain ⟨⟨h0, h1⟩, h2⟩ := h
    have ok' := and2 ok
    have h1 := iha F ok'.1 h1
    have h2 := ihb (pos := pos) F ok'.2 h2
    cases op with
    | And => exact ⟨snd_conj (op := .And) h1.1 h2.1, sndW_conj (op := .And) h1.2 h2.2⟩
    | Or => cases h0
  case case40 =>
    intro sc op a b y z w r iha ihb C X Γ pos F ok h
    simp only [chkO, Bool.and_eq_true] at h
    obtain ⟨⟨h0, h1⟩, h2⟩ := h
    have ok' := and2 ok
    have h1 := iha F ok'.1 h1
    have h2 := ihb (pos := pos) F ok'.2 h2
    cases op with
    | And => cases h0
    | Or => exact ⟨snd_conj (op := .Or) h1.1 h2.1, sndW_conj (op := .Or) h1.2 h2.2⟩
  case case41 =>
    intro t sc op x
    unfold M4
    intros
    rename_i h
    rw [chkO] at h
    · cases h
    all_goals assumption
  case case42 =>
    intro sc C X Γ F ok h
    exact sndA_nil
  case case43 =>
    intro sc e a x xs ih iha C X Γ F ok h
    simp only [chkA, Bool.and_eq_true] at h
    exact sndA_cons h.1.1 (ih F (and2 ok).1 h.1.2).1 (iha F (and2 ok).2 h.2)
  case case44 =>
    intro t sc x
    unfold M3
    intros
    rename_i h
    rw [chkA] at h
    · cases h
    all_goals assumption
theorem snd_e (F : XF G C N sc X) {e : IE} {x : Expr} (ok : okE Γ e = true) (h : chkE G N sc e x = true) : PE X x (rE C Γ (tyE G Γ e) e) ∧ PT X x (rT C Γ e) := (snd_all G N).1 sc e x F ok h
theorem snd_i (F : XF G C N sc X) {e : IE} {tg x : Expr} (ok : okE Γ e = true) (h : chkI G N sc e tg x = true) : PI X tg x (rI C Γ e) := (snd_all G N).2.1 sc e tg x F ok h
theorem snd_lc (F : XF G C N sc X) {e it c : IE} {t : Tg} {x tg iter : Expr} {ifs : List Expr} {scope : Scope} {pos : Pos} (ok : okE Γ (.lc e t it c) = true) (h : chkE G N sc (.lc e t it c) (.ListComp x [⟨tg, iter, ifs, 0⟩] scope pos) = true) : LcB X x tg iter ifs scope (rE C Γ (.ol .fz) (.lc e t it c)) := by
    rw [chkE.eq_def] at h
    simp only [Bool.and_eq_true] at h
    obtain ⟨⟨⟨⟨⟨h1, h2⟩, h3⟩, h4⟩, h5⟩, h6⟩ := h
    have ok1 := and2 ok
    have ok2 := and2 ok1.1
    have ok3 := and2 ok2.1
    have hfn : ∀ (s : Shared) (H : Hp) (Cc : Addr) (cl : List (Str × Addr)) (fp : List Addr) (x : Str), (scope.names.lookup x == some .cell) = true → (X.blk s H scope (compEnvC scope cl Cc X.env) fp).fn x = true := fun s H Cc cl fp x hx => hx
    by_cases hc : c = .nil
    · subst hc
      have : ifs = [] := by
        split at h6
        · rfl
        · simp at h6
        · cases h6
      subst this
      exact (snd_lcB F (fold_ok h2) (snd_i F ok3.1 h3) h1 ok3.2 (fun s H Cc cl fp => sndG (F.blk s H scope Cc cl fp) (hfn s H Cc cl fp) t tg h4) (fun s H Cc cl fp => pts_nil) (fun s H Cc cl fp => (snd_e (F.blk s H scope Cc cl fp) ok2.2 h5).1) (.inl ⟨rfl, rfl⟩))
    · have : ∃ i, ifs = [i] ∧ chkE G N (relS scope sc) c i = true := by
        split at h6
        · split at h6
          · exact absurd rfl hc
          · cases h6
        · rename_i i
          split at h6
          · cases h6
          · exact ⟨i, rfl, h6⟩
        · cases h6
      obtain ⟨i, rfl, h7⟩ := this
      exact (snd_lcB F (fold_ok h2) (snd_i F ok3.1 h3) h1 ok3.2 (fun s H Cc cl fp => sndG (F.blk s H scope Cc cl fp) (hfn s H Cc cl fp) t tg h4) (fun s H Cc cl fp => pts_one (snd_e (F.blk s H scope Cc cl fp) ok1.2 h7).2) (fun s H Cc cl fp => (snd_e (F.blk s H scope Cc cl fp) ok2.2 h5).1) (.inr ⟨hc, rfl⟩))
end
end Pv

/-! Pv, part N: statements: how a frame's holdings flow, the look, the readings. -/
namespace Pv
open PySem PySem.Spec PyProof.Rows L2
mutual
def OT.beq : OT → OT → Bool
  | .fz, .fz => true
  | .ol a, .ol b => OT.beq a b
  | .ot a, .ot b => OT.beqA a b
  | .oi a, .oi b => OT.beqA a b
  | _, _ => false
def OT.beqA : List OT → List OT → Bool
  | [], [] => true
  | a :: as, b :: bs => OT.beq a b && OT.beqA as bs
  | _, _ => false
end
mutual
theorem OT.beq_of : ∀ {a b : OT}, OT.beq a b = true → a = b
  | .fz, b, h => by cases b <;> simp [OT.beq] at h <;> rfl
  | .ol a, b, h => by cases b <;> simp [OT.beq] at h; rw [OT.beq_of h]
  | .ot a, b, h => by cases b <;> simp [OT.beq] at h; rw [OT.beqA_of h]
  | .oi a, b, h => by cases b <;> simp [OT.beq] at h; rw [OT.beqA_of h]
theorem OT.beqA_of : ∀ {a b : List OT}, OT.beqA a b = true → a = b
  | [], b, h => by cases b <;> simp [OT.beqA] at h; rfl
  | a :: as, b, h => by
    cases b with
    | nil => simp [OT.beqA] at h
    | cons b bs =>
      simp only [OT.beqA, Bool.and_eq_true] at h
      rw [OT.beq_of h.1, OT.beqA_of h.2]
end
theorem OT.isFz_of {t : OT} (h : t.isFz = true) : t = .fz := by
  cases t <;> first | rfl | cases h

/-! ### the flow -/
def ends : IS → Bool
  | .seq a b => ends a && ends b
  | .ite _ a b => ends a || ends b
  | .ret _ | .retN | .brk | .cnt | .never => false
  | _ => true
def out (Γ : List OT) : IS → List OT
  | .seq a b => out (out Γ a) b
  | .frz i => Γ.set i .fz
  | .set i t _ => Γ.set i t
  | .asg t _ => setAll .fz Γ t.own
  | .ite _ a b => if ends a then out Γ a else out Γ b
  | _ => Γ
theorem ends_nx {S : Sem1} : ∀ {st : IS} {env env' : Env}, ends st = false → exec S env st ≠ .nx env'
  | .seq a b, env, env', h, e => by
    simp only [exec] at e
    cases ea : exec S env a with
    | nx e1 =>
      rw [ea] at e
      cases h1 : ends a with
      | false => exact ends_nx h1 ea
      | true =>
        rw [ends, h1, Bool.true_and] at h
        exact ends_nx h e
    | _ => rw [ea] at e; cases e
  | .ite c a b, env, env', h, e => by
    simp only [ends, Bool.or_eq_false_iff] at h
    simp only [exec] at e
    cases ec : ev S env c with
    | ok d =>
      rw [ec] at e
      cases d with
      | bl k =>
        cases k with
        | true => exact ends_nx h.1 e
        | false => exact ends_nx h.2 e
      | _ => cases e
    | _ => rw [ec] at e; cases e
  | .ret e1, env, env', h, e => by
    simp only [exec] at e
    cases ec : ev S env e1 <;> rw [ec] at e <;> cases e
  | .retN, env, env', h, e => by simp only [exec] at e; cases e
  | .brk, env, env', h, e => by simp only [exec] at e; cases e
  | .cnt, env, env', h, e => by simp only [exec] at e; cases e
  | .never, env, env', h, e => by simp only [exec] at e; cases e

/-! ### the look -/
def mvA (G : Gt) (Γ : List OT) : List Nat → IE → List OT → Bool
  | _, .nil, [] => true
  | us, .cons e a, t :: ts => (match e, t with
    | .vr i, .fz => ((Γ[i]?).getD .fz).isFz && mvA G Γ us a ts
    | .vr i, t => OT.beq ((Γ[i]?).getD .fz) t && !us.contains i && mvA G Γ (i :: us) a ts
    | e, t => okE Γ e && (t.isFz || OT.beq (tyE G Γ e) t) && mvA G Γ us a ts)
  | _, _, _ => false
def fitE (G : Gt) (Γ : List OT) (t : OT) (e : IE) : Bool := okE Γ e && (t.isFz || OT.beq (tyE G Γ e) t)
def retB (G : Gt) (Γ : List OT) : OT → IE → Bool
  | t, .vr i => OT.beq ((Γ[i]?).getD .fz) t
  | .ot ts, .tp as => mvA G Γ [] as ts
  | t, e => fitE G Γ t e
def noLc : Expr → Bool
  | .ListComp .. | .SetComp .. | .DictComp .. => false
  | _ => true
def noTup : Expr → Bool
  | .Tuple .. => false
  | _ => true
/-- may the value be stored under this name at once -/
def swB (sc : Scope) (x : Str) (p : Pos) : Expr → Option Bool
  | .ListComp _ _ scope pos => if locB sc x then (if p.line == pos.line && !(scope.names.any fun (n, k) => n == x && (k == .local || k == .cell)) then some true else none) else some false
  | e => if noLc e then some false else none
def stoB (sc : Scope) (fb : Str → Bool) (x : Str) : Bool := match sc.names.lookup x with | some .local => true | some .cell => fb x | _ => false
mutual
def chkS (G : Gt) (N : List Str) (sc : Scope) (fb : Str → Bool) (rt : OT) (Γl : List OT) : List OT → IS → Stmt → Bool
  | Γ, .set i t e, .Assign [.Name x p] v _ => decide (N[i]? = some x) && stoB sc fb x && fitE G Γ t e && chkE G N sc e v && (swB sc x p v).isSome
  | Γ, .asg t e, .Assign [.Tuple es k p] v _ => chkG N sc fb t (.Tuple es k p) && okE Γ e && chkE G N sc e v && noLc v && noTup v
  | Γ, .sub i k e, .Assign [.Subscript (.Name x _) y _] v _ => decide (N[i]? = some x) && visB sc x && okN x && OT.beq ((Γ[i]?).getD .fz) (.ol .fz) && noSl y && okE Γ k && okE Γ e && chkE G N sc k y && chkE G N sc e v
  | Γ, .app i e, .Expr (.Call (.Attribute (.Name x _) at' ap) [v] [] cp) _ => decide (at' = "append") && decide (N[i]? = some x) && visB sc x && okN x && OT.beq ((Γ[i]?).getD .fz) (.ol .fz) && (ap.endLine == cp.line) && plainX v && okE Γ e && chkE G N sc e v
  | _, .pass, .Pass _ => true
  | _, .pass, .Expr (.Constant (.str _) _ _) _ => true
  | Γ, .ret e, .Return (some v) _ => retB G Γ rt e && chkE G N sc e v
  | _, .retN, .Return none _ => rt.isFz
  | Γ, .brk, .Break _ => OT.beqA Γ Γl
  | Γ, .cnt, .Continue _ => OT.beqA Γ Γl
  | Γ, .ite c a b, .If z xs ys _ => okE Γ c && chkE G N sc c z && chkB G N sc fb rt Γl Γ a xs && chkB G N sc fb rt Γl Γ b ys && (!ends a || !ends b || OT.beqA (out Γ a) (out Γ b))
  | Γ, .for t it b, .For tg iter xs [] _ => okE Γ it && noSet iter && chkI G N sc it tg iter && chkG N sc fb t tg && (t.own.all fun i => ((Γ[i]?).getD .fz).isFz) && chkB G N sc fb rt Γ Γ b xs && (!ends b || OT.beqA (out Γ b) Γ)
  | Γ, .whl c b, .While z xs [] _ => okE Γ c && chkE G N sc c z && chkB G N sc fb rt Γ Γ b xs && (!ends b || OT.beqA (out Γ b) Γ)
  | _, .never, _ => true
  | _, _, _ => false
def chkB (G : Gt) (N : List Str) (sc : Scope) (fb : Str → Bool) (rt : OT) (Γl : List OT) : List OT → IS → List Stmt → Bool
  | _, .skip, [] => true
  | Γ, .seq (.frz i) b, xs => chkB G N sc fb rt Γl (Γ.set i .fz) b xs
  | Γ, .seq a b, x :: xs => chkS G N sc fb rt Γl Γ a x && chkB G N sc fb rt Γl (out Γ a) b xs
  | _, _, _ => false
end

/-! ### the readings -/
def CN (C : Ct) (Γ : List OT) (A0 : Hp) (K : L2.St → Hp → Prop) (env : Env) : Prop := ∀ σ H fs, SO C.T C.xc Γ fs H σ env → Same A0 (C.xc.A H fs.flatten) → K σ H
/-- what is given back -/
def RR (C : Ct) (t : OT) (H : Hp) (v : V) (d : D) : Prop := ∃ f : List Addr, f.Nodup ∧ (∀ a ∈ f, C.xc.H0 a = none ∨ a ∈ C.xc.W0) ∧ Own C.T (msk H fun a => C.xc.U a ∨ a ∈ f) H t f v d
def PF (C : Ct) (rt : OT) (Γn Γl : List OT) (A0 : Hp) (D : Ends) : Fl → Prop
  | .nx e => CN C Γn A0 D.nx e
  | .bk e => CN C Γl A0 D.bk e
  | .ct e => CN C Γl A0 D.ct e
  | .rt d => ∀ v H, C.xc.Sm H → RR C rt H v d → D.rt v H
  | .ex k es => C.EX k es
  | .bad => False
def rS (C : Ct) (rt : OT) (Γl Γ : List OT) (st : IS) : TS := fun D σ H => ∃ fs env, SO C.T C.xc Γ fs H σ env ∧ PF C rt (out Γ st) Γl (C.xc.A H fs.flatten) D (exec C.S env st)
def rR (C : Ct) (Γ : List OT) (rt : OT) (e : IE) : TE := fun σ H Q => ∃ fs env, SO C.T C.xc Γ fs H σ env ∧ Pst C.EX (fun d => ∀ v H', C.xc.Sm H' → RR C rt H' v d → Q v H') (ev C.S env e)
section
variable {C : Ct} {rt : OT} {Γ Γn Γl : List OT} {A0 A1 : Hp} {Dn : Ends}
theorem CN.mono {K : L2.St → Hp → Prop} {env : Env} (h : CN C Γ A0 K env) (s : Same A0 A1) : CN C Γ A1 K env := fun σ H fs so s' => h σ H fs so (s.trans s')
theorem PF.mono {r : Fl} (h : PF C rt Γn Γl A0 Dn r) (s : Same A0 A1) : PF C rt Γn Γl A1 Dn r := by
  cases r with
  | nx e => exact CN.mono h s
  | bk e => exact CN.mono h s
  | ct e => exact CN.mono h s
  | _ => exact h
/-- only the way it ends counts -/
theorem PF.ends {r : Fl} {Γm : List OT} (h : PF C rt Γn Γl A0 Dn r) (k : (∃ e, r = .nx e) → Γm = Γn) : PF C rt Γm Γl A0 Dn r := by
  cases r with
  | nx e => rw [k ⟨e, rfl⟩]; exact h
  | _ => exact h
theorem RO.rr {fs : List (List Addr)} {H H' : Hp} {σ : L2.St} {env : Env} {t : OT} {v : V} {d : D} (so : SO C.T C.xc Γ fs H σ env) (r : RO C.T C.xc t fs.flatten H H' v d) : RR C t H' v d := by
  obtain ⟨f, nf, nw, o⟩ := r
  obtain ⟨_, _, n3⟩ := so.new nw
  refine ⟨f, nf, fun a ha => ?_, o.mono (msk_mono (Same.refl _) fun a q => .inl (q.imp id fun z => List.mem_append_right _ z)) fun _ _ _ h => h⟩
  by_cases k : a ∈ C.xc.W0
  · exact .inr k
  · exact .inl (n3 a ha k)
theorem Pst.fl {C : Ct} {r : R} {f : D → Fl} (h : PF C rt Γn Γl A0 Dn (r.fl f)) : Pst C.EX (fun d => PF C rt Γn Γl A0 Dn (f d)) r := by
  cases r <;> exact h
end
end Pv

/-! Pv, part O: each statement of the text does what the small language says. -/
namespace Pv
open PySem PySem.Spec PyProof.Rows L2
structure SF (G : Gt) (C : Ct) (N : List Str) (sc : Scope) (fb : Str → Bool) (X : Cx) : Prop where
  xf : XF G C N sc X
  po : PassesOwn (model X.prog X.w) X.A X.env X.xe
  kind : sc.kind = .function
  fn : ∀ x, fb x = true → X.fn x = true
theorem PS.imp {X : Cx} {st : Stmt} {t t' : TS} (h : PS X st t) (i : ∀ D σ H, t' D σ H → t D σ H) : PS X st t' := ⟨fun pins s σ H D I q => h.run pins s σ H D I (i D σ H q)⟩
theorem PSs.imp {X : Cx} {st : List Stmt} {t t' : TS} (h : PSs X st t) (i : ∀ D σ H, t' D σ H → t D σ H) : PSs X st t' := ⟨fun pins s σ H D I q => h.run pins s σ H D I (i D σ H q)⟩
theorem sw_no {v : Expr} (h : noLc v = true) (t : Option Expr) (l : Nat) (env : PySem.Env) : swapsWith v t l env = pure false := by
  cases v <;> first | (cases h; done) | rfl
theorem sw_sub {v o i : Expr} {p : Pos} (l : Nat) (env : PySem.Env) : swapsWith v (some (.Subscript o i p)) l env = pure false := by
  cases v <;> rfl
theorem sw_cell {elt : Expr} {gs : List Comprehension} {scope : Scope} {lp p : Pos} {x : Str} {l : Nat} {env : PySem.Env} (h : env.scope.names.lookup x ≠ some .local) : swapsWith (.ListComp elt gs scope lp) (some (.Name x p)) l env = pure false := by
  have e : (env.kindOf x == some .local) = false := by
    show (env.scope.names.lookup x == some .local) = false
    cases q : env.scope.names.lookup x with
    | none => rfl
    | some k => cases k <;> first | rfl | exact absurd q h
  unfold swapsWith
  simp only [e]
  simp
theorem sole_no {v t : Expr} (h : noLc v = true) (l : Nat) (env : PySem.Env) : swapsWithSole [t] v l env = pure false := by
  unfold swapsWithSole
  exact sw_no h _ _ _
theorem sole_sub {v o i : Expr} {p : Pos} (l : Nat) (env : PySem.Env) : swapsWithSole [.Subscript o i p] v l env = pure false := by
  unfold swapsWithSole
  exact sw_sub _ _
section
variable {G : Gt} {C : Ct} {N : List Str} {sc : Scope} {fb : Str → Bool} {X : Cx} {Γ Γl : List OT} {rt : OT}
theorem SF.sto (F : SF G C N sc fb X) {x : Str} (h : stoB sc fb x = true) : Loc X.env.scope x ∧ (X.fn x = true ∨ X.env.scope.names.lookup x = some .local) := by
  rw [F.xf.sc]
  unfold stoB at h
  split at h
  · rename_i e; exact ⟨.inl e, .inr e⟩
  · rename_i e; exact ⟨.inr e, .inl (F.fn x h)⟩
  · cases h
theorem fit_ro {e : IE} {t : OT} (h : fitE G Γ t e = true) : okE Γ e = true ∧ ∀ {fs : List (List Addr)} {H H' : Hp} {σ : L2.St} {env : Env} {c : Cfg} {v : V} {d : D}, SO C.T c Γ fs H σ env → RO C.T c (tyE G Γ e) fs.flatten H H' v d → RO C.T c t fs.flatten H H' v d := by
  unfold fitE at h
  simp only [Bool.and_eq_true, Bool.or_eq_true] at h
  refine ⟨h.1, fun so r => ?_⟩
  rcases h.2 with e | e
  · rw [OT.isFz_of e]; exact r.fz so
  · rw [← OT.beq_of e]; exact r
/-- name = e -/
theorem snd_set (F : SF G C N sc fb X) {i : Nat} {t : OT} {e : IE} {x : Str} {v : Expr} {p pos : Pos} (h : chkS G N sc fb rt Γl Γ (.set i t e) (.Assign [.Name x p] v pos) = true) : PS X (.Assign [.Name x p] v pos) (rS C rt Γl Γ (.set i t e)) := by
  simp only [chkS, Bool.and_eq_true, decide_eq_true_eq] at h
  obtain ⟨⟨⟨⟨hN, hx⟩, hf⟩, hc⟩, hsw⟩ := h
  obtain ⟨ok, fit⟩ := fit_ro (C := C) hf
  obtain ⟨hl, hfn⟩ := F.sto hx
  have im : ∀ (D : Ends) (σ : L2.St) (H : Hp), rS C rt Γl Γ (.set i t e) D σ H → rE C Γ (tyE G Γ e) e σ H fun w H1 => gName i w σ H1 D.nx := by
    intro Dn σ H q
    obtain ⟨fs, env, so, pf⟩ := q
    refine ⟨_, fs, env, so, so.sm, (Pst.fl pf).imp fun d k w H1 s1 r1 => ?_⟩
    obtain ⟨f, nf, nw, o⟩ := fit so r1
    obtain ⟨so', s'⟩ := so.set s1 i nf nw o
    exact k _ _ _ so' s'
  have plain : (∀ l, swapsWith v (some (.Name x p)) l X.env = pure false) → PS X (.Assign [.Name x p] v pos) (rS C rt Γl Γ (.set i t e)) := fun hs =>
    PS.imp (ps_set (i := i) (by rw [F.xf.N]; exact F.xf.nd) (by rw [F.xf.N]; exact hN) hl (snd_e F.xf ok hc).1 (hs _) hfn) im
  cases v
  case ListComp elt gs scope lp =>
    have hcomp : ∃ e1 t1 it c tg iter ifs, e = .lc e1 t1 it c ∧ gs = [⟨tg, iter, ifs, 0⟩] := by
      unfold chkE at hc
      split at hc
      all_goals first
        | (rename_i e _; cases e; done) | (rename_i e; cases e; done) | (cases hc; done) | skip
      rename_i q
      injection q with q1 q2 q3
      subst q1 q2 q3
      exact ⟨_, _, _, _, _, _, _, rfl, rfl⟩
    by_cases hloc : locB sc x = true
    · have cond : (p.line == lp.line && !(scope.names.any fun (n, k) => n == x && (k == .local || k == .cell))) = true := by
        unfold swB at hsw
        dsimp only at hsw
        rw [if_pos hloc] at hsw
        split at hsw
        · assumption
        · cases hsw
      obtain ⟨e1, t1, it, c, tg, iter, ifs, rfl, rfl⟩ := hcomp
      obtain ⟨own, wi, g, tt, te, hi, okb, hg, ht, he, hs, imc⟩ := snd_lc F.xf ok hc
      have hloc := locB_of hloc
      have c2 := and2 cond
      have hyl : X.env.scope.names.lookup x = some .local := by rw [F.xf.sc]; exact hloc
      refine PS.imp (ps_setLc (i := i) F.xf.calm (by rw [F.xf.N]; exact F.xf.nd) (by rw [F.xf.N]; exact hN) hyl (sw_true (by rw [F.xf.sc]; exact F.kind) hyl c2.1 (by simpa using c2.2)) hi okb hg ht he hs) fun D σ H q => ?_
      exact imc _ _ _ (im D σ H q)
    · refine plain fun l => sw_cell fun h => hloc ?_
      rw [F.xf.sc] at h
      unfold locB
      rw [h]
  all_goals first
    | exact plain fun l => sw_no rfl _ _ _
    | (unfold swB at hsw; cases hsw; done)
/-- (a, b, ..) = e -/
theorem snd_asg (F : SF G C N sc fb X) {t : Tg} {e : IE} {es : List Expr} {k : Nat} {v : Expr} {p pos : Pos} (h : chkS G N sc fb rt Γl Γ (.asg t e) (.Assign [.Tuple es k p] v pos) = true) : PS X (.Assign [.Tuple es k p] v pos) (rS C rt Γl Γ (.asg t e)) := by
  simp only [chkS, Bool.and_eq_true] at h
  obtain ⟨⟨⟨⟨hg, ok⟩, hc⟩, hl⟩, ht⟩ := h
  have hw : swappedStores [.Tuple es k p] v X.env = pure none := by
    cases v <;> first | (cases ht; done) | rfl
  refine PS.imp (ps_asg (snd_e F.xf ok hc).1 (sndG F.xf F.fn t _ hg) (sole_no hl _ _) hw) fun D σ H q => ?_
  obtain ⟨fs, env, so, pf⟩ := q
  refine ⟨_, fs, env, so, so.sm, (Pst.fl pf).imp fun d k w H1 s1 r1 => ?_⟩
  cases eb : bindT t d env with
  | none => rw [eb] at k; exact k.elim
  | some env' =>
    rw [eb] at k
    exact ⟨_, Γ, fs, env, d, env', so.mono s1, r1.rep so, eb, fun σ' so' s' off => k _ _ _ so' ((Cfg.A_mono s1).trans s')⟩
theorem SO.write_same {T : Tb} {c : Cfg} {fs : List (List Addr)} {H : Hp} {σ : L2.St} {env : Env} (so : SO T c Γ fs H σ env) {i : Nat} {f g : List Addr} {p : Addr} {ob : HO} (hf : fs[i]? = some f) (hp : p ∈ f) (hg : ∀ a ∈ g, a ∈ f) :
    Same (c.A H fs.flatten) (c.A (upd H p ob) (fs.set i g).flatten) := by
  have hm : ∀ a ∈ f, a ∈ fs.flatten := fun a ha => List.mem_flatten.mpr ⟨f, List.mem_of_getElem? hf, ha⟩
  intro a q h
  obtain ⟨h1, h2⟩ := msk_some.mp h
  refine msk_some.mpr ⟨fun z => h1 (z.elim .inl fun z => .inr ((flat_set z).elim (fun k => hm a (hg a k)) id)), ?_⟩
  have ne : a ≠ p := fun e => h1 (.inr (by rw [e]; exact hm p hp))
  rw [upd_ne ne]
  exact h2
/-- a list of one's own: its object is replaced -/
theorem SO.list {T : Tb} {c : Cfg} {fs : List (List Addr)} {H : Hp} {σ : L2.St} {env : Env} (so : SO T c Γ fs H σ env) {i : Nat} {ds : List D} (hz : (Γ[i]?).getD .fz = .ol .fz) (e : env[i]? = some (some (.lst ds))) :
    ∃ (p : Addr) (vs : List V), σ[i]? = some (some (.ref p)) ∧ H p = some (.lst vs) ∧ RepA T (c.A H fs.flatten) vs ds ∧
      ∀ vs' ds', RepA T (c.A H fs.flatten) vs' ds' → SO T c Γ (fs.set i [p]) (upd H p (.lst vs')) σ (env.set i (some (.lst ds'))) ∧ Same (c.A H fs.flatten) (c.A (upd H p (.lst vs')) (fs.set i [p]).flatten) := by
  obtain ⟨v, t, f, h1, h2, h3, o⟩ := so.sl.get e
  rw [h2] at hz
  have hz : t = .ol .fz := hz
  subst hz
  cases o with
  | @ol _ f' p vs _ hp ol =>
    obtain ⟨ef, ra⟩ := ol.to_rep
    refine ⟨p, vs, h1, hp, ra, fun vs' ds' r' => ?_⟩
    have hg : ∀ a ∈ [p], a ∈ p :: f' := fun a ha => by rw [List.mem_singleton] at ha; rw [ha]; exact List.mem_cons_self
    have ss := so.write_same (ob := .lst vs') h3 List.mem_cons_self hg
    exact so.write h3 List.mem_cons_self hg (by simp) h1 h2 (.ol upd_same (.of_rep (r'.mono ss)))
/-- name[k] = e -/
theorem snd_sub (F : SF G C N sc fb X) {i : Nat} {k e : IE} {x : Str} {y v : Expr} {p p2 pos : Pos} (h : chkS G N sc fb rt Γl Γ (.sub i k e) (.Assign [.Subscript (.Name x p) y p2] v pos) = true) : PS X (.Assign [.Subscript (.Name x p) y p2] v pos) (rS C rt Γl Γ (.sub i k e)) := by
  simp only [chkS, Bool.and_eq_true, decide_eq_true_eq] at h
  obtain ⟨⟨⟨⟨⟨⟨⟨⟨hN, hv⟩, hk⟩, hz⟩, hsl⟩, ok1⟩, ok2⟩, hc1⟩, hc2⟩ := h
  obtain ⟨o1, o2, o3⟩ := okN_of hk
  have hz := OT.beq_of hz
  have ha : ∀ w, assign (.Subscript (.Name x p) y p2) X.env w = (do
      let ov ← holding [w] (eval (.Name x p) X.env)
      let iv ← holding [w, ov] (eval y X.env)
      standAt p2
      holding [w, ov, iv] (setItem ov iv w)
      release [w, ov, iv] []) := by
    intro w
    cases y <;> first | (cases hsl; done) | rfl
  have pg := pg_sub (pos := p2) (pe_var (i := i) (pos := p) (by rw [F.xf.N]; exact hN) (F.xf.vis hv) o1 o2) (snd_e F.xf ok1 hc1).1 set_list ha
  refine PS.imp (ps_asg (snd_e F.xf ok2 hc2).1 pg (sole_sub _ _) (by cases v <;> rfl)) fun D σ H q => ?_
  obtain ⟨fs, env, so, pf⟩ := q
  refine ⟨_, fs, env, so, so.sm, (Pst.fl pf).imp fun d q w H1 s1 r1 => ?_⟩
  have so1 := so.mono s1
  have rw1 := r1.rep so
  split at q
  · rename_i ds el
    obtain ⟨p, vs, h1, hp, ra, _⟩ := so1.list hz el
    refine ⟨.ref p, h1, _, fs, env, so1, so1.sm, (Pst.fl q).imp fun j q u H2 s2 r2 => ?_⟩
    have so2 := so1.mono s2
    obtain ⟨p', vs', h1', hp', ra', up⟩ := so2.list hz el
    rw [h1] at h1'
    cases h1'
    cases j with
    | int j =>
      dsimp only at q
      split at q
      · rename_i n hn
        have hn' : ixN vs'.length j = some n := by rw [ra'.length]; exact hn
        obtain ⟨so3, s3⟩ := up (vs'.set n w) (ds.set n d) (ra'.set n (rw1.mono (Cfg.A_mono s2)))
        exact ⟨p, vs', j, n, rfl, r2.int, hp', hn', q _ _ _ so3 (((Cfg.A_mono s1).trans (Cfg.A_mono s2)).trans s3)⟩
      · exact q.elim
    | _ => exact q.elim
  · exact q.elim
/-- name.append(e) -/
theorem snd_app (F : SF G C N sc fb X) {i : Nat} {e : IE} {x at' : Str} {v : Expr} {p ap cp pos : Pos} (h : chkS G N sc fb rt Γl Γ (.app i e) (.Expr (.Call (.Attribute (.Name x p) at' ap) [v] [] cp) pos) = true) :
    PS X (.Expr (.Call (.Attribute (.Name x p) at' ap) [v] [] cp) pos) (rS C rt Γl Γ (.app i e)) := by
  simp only [chkS, Bool.and_eq_true, decide_eq_true_eq] at h
  obtain ⟨⟨⟨⟨⟨⟨⟨⟨rfl, hN⟩, hv⟩, hk⟩, hz⟩, hl⟩, hpl⟩, ok⟩, hc⟩ := h
  obtain ⟨o1, o2, o3⟩ := okN_of hk
  have hz := OT.beq_of hz
  have hs := star_plain hpl [] X.env
  have pe := pe_bm (X := X) (apos := ap) (cpos := cp) PySem.F.plainAttrs_list PySem.F.slot_list_append PySem.F.type_list_append mt_append (pe_var (i := i) (pos := p) (by rw [F.xf.N]; exact hN) (F.xf.vis hv) o1 o2)
    (rA_one hpl (snd_e F.xf ok hc).1) rfl (by rw [hs]; rfl) hl hs rfl
  refine PS.imp (ps_expr pe) fun D σ H q => ?_
  obtain ⟨fs, env, so, pf⟩ := q
  simp only [exec] at pf
  split at pf
  · rename_i ds el
    obtain ⟨p, vs, h1, hp, ra, _⟩ := so.list hz el
    refine ⟨.ref p, h1, .inl ⟨rfl, _, .of hp⟩, _, fs, env, so, so.sm, ?_⟩
    show Pst _ _ (consD (ev C.S env e) (.ok (.tup [])))
    have pf' := Pst.fl pf
    cases ee : ev C.S env e with
    | ok d =>
      rw [ee] at pf'
      intro ds' us H1 e1 s1 r1
      cases e1
      have so1 := so.mono s1
      obtain ⟨p', vs', h1', hp', ra', up⟩ := so1.list hz el
      rw [h1] at h1'
      cases h1'
      cases r1.rep so with
      | @cons u _ _ _ ru rn =>
        cases rn
        have pf' : PF C rt _ _ _ _ (if ds.length < lim then Fl.nx (env.set i (some (.lst (ds ++ [d])))) else .bad) := pf'
        split at pf'
        · rename_i hlt
          obtain ⟨so3, s3⟩ := up (vs' ++ [u]) (ds ++ [d]) (ra'.append (.cons ru .nil))
          exact ⟨p, vs', u, rfl, rfl, hp', by rw [ra'.length]; exact Nat.lt_of_lt_of_le hlt lim_le, pf' _ _ _ so3 ((Cfg.A_mono s1).trans s3)⟩
        · exact pf'.elim
    | ex k es => rw [ee] at pf'; exact pf'
    | bad => rw [ee] at pf'; exact pf'
  · exact pf.elim
end
end Pv

/-! Pv, part P: return, tests, loops, blocks. -/
namespace Pv
open PySem PySem.Spec PyProof.Rows L2
section
variable {G : Gt} {C : Ct} {N : List Str} {sc : Scope} {fb : Str → Bool} {X : Cx} {Γ Γl : List OT} {rt : OT}
theorem flat_one {fs : List (List Addr)} {i : Nat} {f : List Addr} (n : fs.flatten.Nodup) (h : fs[i]? = some f) : f.Nodup :=
  (List.pairwise_flatten.mp n).1 f (List.mem_of_getElem? h)
theorem flat_apart {fs : List (List Addr)} {i j : Nat} {f g : List Addr} (n : fs.flatten.Nodup) (h : fs[i]? = some f) (k : fs[j]? = some g) (ne : i ≠ j) : ∀ a ∈ f, a ∉ g := fun a ha hg =>
  flat_out n h a ha (List.mem_flatten.mpr ⟨g, List.mem_of_getElem? (i := j) (by rw [List.getElem?_set_ne ne]; exact k), hg⟩)
/-- what is told of arguments of which some are given away -/
def ROM (T : Tb) (c : Cfg) (us : List Nat) (ts : List OT) (fs : List (List Addr)) (H H' : Hp) (vs : List V) (ds : List D) : Prop :=
  ∃ f : List Addr, f.Nodup ∧ (∀ a ∈ f, H a = none ∨ (a ∈ fs.flatten ∧ ∀ i ∈ us, a ∉ (fs[i]?).getD [])) ∧ OwnL T (c.A H' (fs.flatten ++ f)) H' ts f vs ds
def rM (C : Ct) (Γ : List OT) (us : List Nat) (ts : List OT) (e : IE) : TA := fun σ H Q => ∃ c fs env, SO C.T c Γ fs H σ env ∧ C.xc.Sm H ∧
  Pst C.EX (fun d => ∀ ds vs H', d = .tup ds → Same H H' → ROM C.T c us ts fs H H' vs ds → Q vs H') (ev C.S env e)
theorem chk_vr {i : Nat} {x : Expr} (h : chkE G N sc (.vr i) x = true) : ∃ y p, x = .Name y p ∧ N[i]? = some y ∧ visB sc y = true ∧ okN y = true := by
  unfold chkE at h
  split at h
  · rename_i e
    injection e with e
    subst e
    simp only [Bool.and_eq_true, decide_eq_true_eq] at h
    exact ⟨_, _, rfl, h.1.1, h.1.2, h.2⟩
  all_goals first | (rename_i e _; cases e; done) | (rename_i e; cases e; done) | (cases h; done)
theorem sndM_gen {x : Expr} {xs : List Expr} {us : List Nat} {e a : IE} {t : OT} {ts : List OT} (hp : plainX x = true) (ha : PE X x (rE C Γ t e)) (hr : PA X xs (rM C Γ us ts a)) : PA X (x :: xs) (rM C Γ us (t :: ts) (.cons e a)) :=
  PA.imp (pa_cons ha hr (star_plain hp _ _)) fun σ H Q h => by
    obtain ⟨c, fs, env, so, sm, p⟩ := h
    refine ⟨c, fs, env, so, sm, (Pst.cons p).imp fun d k v H1 s1 r1 => ?_⟩
    obtain ⟨f1, n1, w1, o1⟩ := r1
    have d1 := o1.dom
    refine ⟨{ c with U := fun a => c.U a ∨ a ∈ f1 }, fs, env, so.hide s1 w1 d1, sm.mono s1, Pst.imp k fun d' k ds vs H2 e s2 r2 => ?_⟩
    subst e
    obtain ⟨ds', e, q⟩ := k
    cases e
    refine q (d :: ds) (v :: vs) H2 rfl (s1.trans s2) ?_
    obtain ⟨f2, n2, w2, o2⟩ := r2
    have apart : ∀ a ∈ f1, a ∉ f2 := fun a ha hb => (w2 a hb).elim (d1 a ha) fun z => so.dom a z.1 (w1 a ha)
    refine ⟨f1 ++ f2, List.nodup_append.mpr ⟨n1, n2, fun a ha b hb e => by subst e; exact apart a ha hb⟩, fun a ha => (List.mem_append.mp ha).elim (fun z => .inl (w1 a z)) fun z => (w2 a z).imp (fun z => s1.free z) id, .cons (o1.mono (msk_mono s2 fun a z => ?_) fun a ha o h => s2 a o h) (o2.mono (msk_mono (Same.refl _) fun a z => .inl ?_) fun a ha o h => h)⟩
    · rcases z with z | z
      · exact .inl (.inl z)
      · rcases List.mem_append.mp z with z | z
        · exact .inl (.inr (List.mem_append_left _ z))
        · rcases List.mem_append.mp z with z | z
          · exact .inl (.inr (List.mem_append_right _ z))
          · exact (w2 a z).elim .inr fun z => .inl (.inr (List.mem_append_left _ z.1))
    · rcases z with z | z
      · exact .inl (.inl z)
      · rcases List.mem_append.mp z with z | z
        · exact .inr (List.mem_append_left _ z)
        · rcases List.mem_append.mp z with z | z
          · exact .inl (.inr z)
          · exact .inr (List.mem_append_right _ z)
theorem sndM_mv (F : XF G C N sc X) {x : Expr} {xs : List Expr} {us : List Nat} {i : Nat} {a : IE} {t : OT} {ts : List OT} (hc : chkE G N sc (.vr i) x = true) (hz : (Γ[i]?).getD .fz = t) (hu : us.contains i = false) (hr : PA X xs (rM C Γ (i :: us) ts a)) : PA X (x :: xs) (rM C Γ us (t :: ts) (.cons (.vr i) a)) := by
  obtain ⟨y, p', rfl, q1, q2, q3⟩ := chk_vr hc
  obtain ⟨o1, o2, o3⟩ := okN_of q3
  refine PA.imp (pa_cons (pe_var (i := i) (by rw [F.N]; exact q1) (F.vis q2) o1 o2) hr rfl) fun σ H Q h => ?_
  obtain ⟨c, fs, env, so, sm, p⟩ := h
  have p := Pst.cons p
  simp only [ev] at p
  split at p
  · rename_i d e
    obtain ⟨v, t', f, h1, h2, h3, o⟩ := so.sl.get e
    rw [h2] at hz
    have hz : t' = t := hz
    subst hz
    refine ⟨v, h1, c, fs, env, so, sm, Pst.imp p fun d' k ds vs H2 e s2 r2 => ?_⟩
    subst e
    obtain ⟨ds', e, q⟩ := k
    cases e
    refine q (d :: ds) (v :: vs) H2 rfl s2 ?_
    obtain ⟨f2, n2, w2, o2⟩ := r2
    have hm : ∀ a ∈ f, a ∈ fs.flatten := fun a ha => List.mem_flatten.mpr ⟨f, List.mem_of_getElem? h3, ha⟩
    have apart : ∀ a ∈ f, a ∉ f2 := fun a ha hb => (w2 a hb).elim (so.dom a (hm a ha)) fun z => z.2 i List.mem_cons_self (by rw [h3]; exact ha)
    refine ⟨f ++ f2, List.nodup_append.mpr ⟨flat_one so.nd h3, n2, fun a ha b hb e => by subst e; exact apart a ha hb⟩, fun a ha => (List.mem_append.mp ha).elim (fun z => .inr ⟨hm a z, fun j hj hx => ?_⟩) fun z => (w2 a z).imp id fun z => ⟨z.1, fun j hj => z.2 j (List.mem_cons_of_mem _ hj)⟩, .cons (o.mono (msk_mono s2 fun a z => ?_) fun a ha o h => s2 a o h) (o2.mono (msk_mono (Same.refl _) fun a z => .inl ?_) fun a ha o h => h)⟩
    · cases ej : fs[j]? with
      | none => rw [ej] at hx; cases hx
      | some g =>
        rw [ej] at hx
        refine flat_apart so.nd h3 ej (fun e => ?_) a z hx
        subst e
        rw [List.contains_eq_mem] at hu
        simp [hj] at hu
    · rcases z with z | z
      · exact .inl (.inl z)
      · rcases List.mem_append.mp z with z | z
        · exact .inl (.inr z)
        · rcases List.mem_append.mp z with z | z
          · exact .inl (.inr (hm a z))
          · exact (w2 a z).elim .inr fun z => .inl (.inr z.1)
    · rcases z with z | z
      · exact .inl z
      · rcases List.mem_append.mp z with z | z
        · exact .inr (List.mem_append_left _ z)
        · rcases List.mem_append.mp z with z | z
          · exact .inr (List.mem_append_left _ (hm a z))
          · exact .inr (List.mem_append_right _ z)
  · exact p.elim
theorem sndM (F : XF G C N sc X) : ∀ (as : IE) (xs : List Expr) (us : List Nat) (ts : List OT), mvA G Γ us as ts = true → chkA G N sc as xs = true → PA X xs (rM C Γ us ts as)
  | .nil, [], us, [], _, _ => PA.imp pa_nil fun σ H Q h => by
    obtain ⟨c, fs, env, so, sm, p⟩ := h
    exact p [] [] H rfl (Same.refl H) ⟨[], List.nodup_nil, (fun a h => by cases h), .nil⟩
  | .cons e a, x :: xs, us, t :: ts, hm, hc => by
    simp only [chkA, Bool.and_eq_true] at hc
    have gen : fitE G Γ t e = true → PE X x (rE C Γ t e) := fun h => by
      obtain ⟨ok, fit⟩ := fit_ro (C := C) h
      exact PE.imp (snd_e F ok hc.1.2).1 fun σ H Q q => by
        obtain ⟨c, fs, env, so, sm, p⟩ := q
        exact ⟨c, fs, env, so, sm, p.imp fun d k v H1 s1 r1 => k v H1 s1 (fit so r1)⟩
    unfold mvA at hm
    split at hm
    · obtain ⟨h1, h2⟩ := and2 hm
      exact sndM_gen hc.1.1 (gen (by unfold fitE; rw [okE, h1]; rfl)) (sndM F a xs _ ts h2 hc.2)
    · obtain ⟨h1, h2⟩ := and2 hm
      obtain ⟨h1, h3⟩ := and2 h1
      exact sndM_mv F hc.1.2 (OT.beq_of h1) (by simpa using h3) (sndM F a xs _ ts h2 hc.2)
    · obtain ⟨h1, h2⟩ := and2 hm
      exact sndM_gen hc.1.1 (gen h1) (sndM F a xs _ ts h2 hc.2)
  | .nil, [], _, _ :: _, hm, _ => by simp [mvA] at hm
  | .nil, _ :: _, _, _, _, hc => by simp [chkA] at hc
  | .cons _ _, [], _, _, _, hc => by simp [chkA] at hc
  | .cons _ _, _ :: _, _, [], hm, _ => by simp [mvA] at hm
/-- what is given back -/
theorem snd_rR (F : XF G C N sc X) {e : IE} {x : Expr} (h : retB G Γ rt e = true) (hc : chkE G N sc e x = true) : PE X x (rR C Γ rt e) := by
  have gen : fitE G Γ rt e = true → PE X x (rR C Γ rt e) := fun h => by
    obtain ⟨ok, fit⟩ := fit_ro (C := C) h
    refine PE.imp (snd_e F ok hc).1 fun σ H Q q => ?_
    obtain ⟨fs, env, so, p⟩ := q
    exact ⟨_, fs, env, so, so.sm, p.imp fun d k v H1 s1 r1 => k v H1 (so.sm.mono s1) ((fit so r1).rr so)⟩
  unfold retB at h
  split at h
  · rename_i i
    obtain ⟨y, p', rfl, q1, q2, q3⟩ := chk_vr hc
    obtain ⟨o1, o2, o3⟩ := okN_of q3
    refine PE.imp (pe_var (i := i) (by rw [F.N]; exact q1) (F.vis q2) o1 o2) fun σ H Q q => ?_
    obtain ⟨fs, env, so, p⟩ := q
    simp only [ev] at p
    split at p
    · rename_i d e
      obtain ⟨v, t', f, h1, h2, h3, o⟩ := so.sl.get e
      have h := OT.beq_of h
      rw [h2] at h
      have h : t' = rt := h
      subst h
      have hm : ∀ a ∈ f, a ∈ fs.flatten := fun a ha => List.mem_flatten.mpr ⟨f, List.mem_of_getElem? h3, ha⟩
      exact ⟨v, h1, p v H so.sm ⟨f, flat_one so.nd h3, fun a ha => so.fr a (hm a ha), o.mono (msk_mono (Same.refl _) fun a z => .inl (z.imp id (hm a))) fun _ _ _ h => h⟩⟩
    · exact p.elim
  · rename_i ts as
    have hx : ∃ xs k p, x = .Tuple xs k p ∧ chkA G N sc as xs = true := by
      unfold chkE at hc
      split at hc
      all_goals first
        | (rename_i q; injection q with q; subst q; exact ⟨_, _, _, rfl, hc⟩)
        | (rename_i e _; cases e; done) | (rename_i e; cases e; done) | (cases hc; done)
    obtain ⟨xs, k, p, rfl, hca⟩ := hx
    refine PE.imp (pe_tup (sndM F as xs [] ts h hca)) fun σ H Q q => ?_
    obtain ⟨fs, env, so, p⟩ := q
    refine ⟨_, fs, env, so, so.sm, (Pst.arg p).imp fun d k ds vs H1 e s1 r1 => ?_⟩
    subst e
    obtain ⟨ds', e, q⟩ := k
    cases e
    unfold mkT at q
    split at q
    · rename_i hl
      obtain ⟨f, nf, wf, o⟩ := r1
      refine ⟨by rw [o.length.1]; exact Nat.le_trans hl lim_le, fun p np => q _ _ ((so.sm.mono s1).mono (same_upd np)) ?_⟩
      have hpf : p ∉ f := fun h => o.dom p h np
      have np0 : H p = none := s1.free np
      have w0 : ∀ a, H a = none → C.xc.H0 a = none ∨ a ∈ C.xc.W0 := fun a ha => by
        by_cases k : a ∈ C.xc.W0
        · exact .inr k
        · exact .inl ((so.new (f := [a]) (fun b hb => by rw [List.mem_singleton] at hb; rw [hb]; exact ha)).2.2 a (by simp) k)
      refine ⟨p :: f, List.nodup_cons.mpr ⟨hpf, nf⟩, fun a ha => ?_, .ot upd_same (o.mono (msk_mono (same_upd np) fun a z => ?_) fun a ha ob h => by rw [upd_ne (ne_of_none h np)]; exact h)⟩
      · rcases List.mem_cons.mp ha with e | ha
        · rw [e]; exact w0 p np0
        · exact (wf a ha).elim (w0 a) fun z => so.fr a z.1
      · rcases z with z | z
        · exact .inl (.inl z)
        · rcases List.mem_cons.mp z with e | z
          · rw [e]; exact .inr np
          · exact .inl (.inr (List.mem_append_right _ z))
    · exact q.elim
  · exact gen h
end
end Pv

/-! Pv, part Q: tests, loops, blocks; the whole of a body. -/
namespace Pv
open PySem PySem.Spec PyProof.Rows L2
section
variable {G : Gt} {C : Ct} {N : List Str} {sc : Scope} {fb : Str → Bool} {X : Cx} {Γ Γl : List OT} {rt : OT}
theorem snd_iteS {z : Expr} {xs ys : List Stmt} {pos : Pos} {c : IE} {a b : IS} (hc : PT X z (rT C Γ c)) (ha : PSs X xs (rS C rt Γl Γ a)) (hb : PSs X ys (rS C rt Γl Γ b)) (ag : ends a = false ∨ ends b = false ∨ out Γ a = out Γ b) :
    PS X (.If z xs ys pos) (rS C rt Γl Γ (.ite c a b)) := by
  refine PS.imp (ps_if hc ha hb) fun D σ H q => ?_
  obtain ⟨fs, env, so, pf⟩ := q
  refine ⟨_, fs, env, so, so.sm, (Pst.fl pf).imp fun d k => ?_⟩
  cases d with
  | bl v =>
    refine ⟨v, rfl, fun H1 s1 => ?_⟩
    cases v with
    | true =>
      rw [if_pos rfl]
      refine ⟨fs, env, so.mono s1, (PF.ends k ?_).mono (Cfg.A_mono s1)⟩
      rintro ⟨e, he⟩
      have ea : ends a = true := by
        cases h : ends a with
        | true => rfl
        | false => exact absurd he (ends_nx h)
      rw [out, if_pos ea]
    | false =>
      rw [if_neg Bool.false_ne_true]
      refine ⟨fs, env, so.mono s1, (PF.ends k ?_).mono (Cfg.A_mono s1)⟩
      rintro ⟨e, he⟩
      have eb : ends b = true := by
        cases h : ends b with
        | true => rfl
        | false => exact absurd he (ends_nx h)
      rw [out]
      split
      · rename_i ea
        rcases ag with h | h | h
        · rw [ea] at h; cases h
        · rw [eb] at h; cases h
        · exact h.symm
      · rfl
  | _ => exact k.elim
theorem setAll_fz {T : Tb} {A H : Hp} {fs : List (List Addr)} {σ : L2.St} {env : Env} {vs : List Nat} (sl : Sl T A H Γ fs σ env) (h : ∀ i ∈ vs, ((Γ[i]?).getD .fz).isFz = true) : setAll .fz Γ vs = Γ ∧ setAll [] fs vs = fs :=
  ⟨setAll_id fun j hj => (sl.fz_at j (h j hj)).1, setAll_id fun j hj => (sl.fz_at j (h j hj)).2⟩
def turnF (f : Env → Fl) : Fl → Fl
  | .nx e => f e
  | .ct e => f e
  | .bk e => .nx e
  | r => r
/-- the turn of a loop: what comes of it -/
theorem turn_pf {b : IS} {A0 A1 : Hp} {Dn : Ends} {K : L2.St → Hp → Prop} {f : Env → Fl} {r : Fl} {S : Sem1} {e0 : Env} (hr : r = Pv.exec S e0 b) (ho : ends b = true → out Γ b = Γ) (s : Same A0 A1)
    (h : PF C rt Γ Γl A0 Dn (turnF f r))
    (k : ∀ e σ H fs, SO C.T C.xc Γ fs H σ e → Same A1 (C.xc.A H fs.flatten) → PF C rt Γ Γl A0 Dn (f e) → K σ H) : PF C rt (out Γ b) Γ A1 { Dn with nx := K, ct := K, bk := Dn.nx } r := by
  cases r with
  | nx e =>
    intro σ H fs so s'
    have eb : ends b = true := by
      cases hh : ends b with
      | true => rfl
      | false => exact absurd hr.symm (ends_nx hh)
    rw [ho eb] at so
    exact k e σ H fs so s' h
  | ct e => exact fun σ H fs so s' => k e σ H fs so s' h
  | bk e => exact fun σ H fs so s' => h σ H fs so (s.trans s')
  | rt d => exact h
  | ex c es => exact h
  | bad => exact h
theorem snd_forS (F : SF G C N sc fb X) {tg iter : Expr} {xs : List Stmt} {pos : Pos} {t : Tg} {it : IE} {b : IS} (hi : PI X tg iter (rI C Γ it)) (hg : PG X tg (rG C t)) (hb : PSs X xs (rS C rt Γ Γ b)) (hfold : ∀ x, foldedSetIterable iter X.env x = pure x)
    (hz : ∀ i ∈ t.own, ((Γ[i]?).getD .fz).isFz = true) (ho : ends b = true → out Γ b = Γ) : PS X (.For tg iter xs [] pos) (rS C rt Γl Γ (.for t it b)) := by
  refine PS.imp (ps_for F.po F.xf.calm hi hg hb hfold) fun D σ H q => ?_
  obtain ⟨fs, env, so, pf⟩ := q
  refine ⟨_, fs, env, so, so.sm, ?_⟩
  have pf : PF C rt Γ Γl (C.xc.A H fs.flatten) D (match ev C.S env it with
    | .ok (.tup ds) => forL (fun d e => optF (bindT t d e) fun e' => Pv.exec C.S e' b) ds env
    | .ex c ds => .ex c ds
    | _ => .bad) := pf
  cases ei : ev C.S env it with
  | bad => rw [ei] at pf; exact pf
  | ex k es => rw [ei] at pf; exact pf
  | ok d =>
    rw [ei] at pf
    intro items J H1 e1 s1 iok
    subst e1
    obtain ⟨g, Y, w, hgs, hy⟩ := iok
    refine for_it w (fun i σ' H' => ∃ fs' env', SO C.T C.xc Γ fs' H' σ' env' ∧ Same (C.xc.A H1 fs.flatten) (C.xc.A H' fs'.flatten) ∧ PF C rt Γ Γl (C.xc.A H fs.flatten) D (forL (fun d e => optF (bindT t d e) fun e' => Pv.exec C.S e' b) (items.drop i) env')) ⟨fs, env, so.mono s1, Same.refl _, pf⟩ ?_ ?_ ?_
    · rintro i σ' H' hi' ⟨fs', env', so', sA, pf'⟩
      exact hgs _ (sA.trans msk_same)
    · rintro i x σ' Hc H' hi' ⟨fs', env', so', sA, pf'⟩ y
      obtain ⟨sy, hrep⟩ := hy i Hc x H' hi' (sA.trans msk_same) y
      obtain ⟨d, ed, rd⟩ := hrep (fun a => C.xc.U a ∨ a ∈ fs'.flatten) (fun a q => q.elim (so'.dm a) (so'.dom a)) sA
      have so2 := so'.mono sy
      have edrop : items.drop i = d :: items.drop (i + 1) := by
        rw [List.drop_eq_getElem_cons hi']
        rw [List.getElem?_eq_getElem hi'] at ed
        cases ed
        rfl
      rw [edrop] at pf'
      cases eb : bindT t d env' with
      | none =>
        have : PF C rt Γ Γl (C.xc.A H fs.flatten) D (turnF (fun e => forL (fun d e => optF (bindT t d e) fun e' => Pv.exec C.S e' b) (items.drop (i + 1)) e) (optF (bindT t d env') fun e' => Pv.exec C.S e' b)) := by
          rw [forL] at pf'
          exact pf'
        rw [eb] at this
        exact this.elim
      | some e1 =>
        have pf2 : PF C rt Γ Γl (C.xc.A H fs.flatten) D (turnF (fun e => forL (fun d e => optF (bindT t d e) fun e' => Pv.exec C.S e' b) (items.drop (i + 1)) e) (optF (bindT t d env') fun e' => Pv.exec C.S e' b)) := by
          rw [forL] at pf'
          exact pf'
        rw [eb] at pf2
        refine ⟨_, Γ, fs', env', d, e1, so2, rd, eb, fun σ2 so3 s3 off => ?_⟩
        obtain ⟨f1, f2⟩ := setAll_fz so2.sl hz
        rw [f1, f2] at so3
        have sA0 : Same (C.xc.A H fs.flatten) (C.xc.A H' fs'.flatten) := (Cfg.A_mono s1).trans (sA.trans (Cfg.A_mono sy))
        refine ⟨fs', e1, so3, turn_pf rfl ho sA0 pf2 fun e σ3 H3 fs3 so4 s4 pf3 => ⟨fs3, e, so4, (sA.trans (Cfg.A_mono sy)).trans s4, pf3⟩⟩
    · rintro σ' H' ⟨fs', env', so', sA, pf'⟩
      have : items.drop items.length = [] := by simp
      rw [this] at pf'
      exact pf' _ _ _ so' ((Cfg.A_mono s1).trans sA)
theorem snd_whlS (F : SF G C N sc fb X) {z : Expr} {xs : List Stmt} {pos : Pos} {c : IE} {b : IS} (hc : PT X z (rT C Γ c)) (hb : PSs X xs (rS C rt Γ Γ b)) (ho : ends b = true → out Γ b = Γ) : PS X (.While z xs [] pos) (rS C rt Γl Γ (.whl c b)) := by
  refine PS.imp (ps_while F.po hc hb) fun D σ H q => ?_
  obtain ⟨fs, env, so, pf⟩ := q
  have pf : PF C rt Γ Γl (C.xc.A H fs.flatten) D (whL (fun e => ev C.S e c) (fun e => Pv.exec C.S e b) env) := pf
  have hne : whL (fun e => ev C.S e c) (fun e => Pv.exec C.S e b) env ≠ .bad := fun h => by rw [h] at pf; exact pf
  obtain ⟨n, hn⟩ := whL_ends hne
  refine ⟨fun m σ' H' => ∃ fs' env' r, SO C.T C.xc Γ fs' H' σ' env' ∧ Same (C.xc.A H fs.flatten) (C.xc.A H' fs'.flatten) ∧ whN (fun e => ev C.S e c) (fun e => Pv.exec C.S e b) m env' = some r ∧ PF C rt Γ Γl (C.xc.A H fs.flatten) D r, ⟨n, fs, env, _, so, Same.refl _, hn, pf⟩, ?_⟩
  rintro m σ' H' ⟨fs', env', r, so', sA, hm, pr⟩
  refine ⟨_, fs', env', so', so'.sm, ?_⟩
  cases m with
  | zero => simp [whN] at hm
  | succ m =>
    rw [whN] at hm
    cases ec : ev C.S env' c with
    | bad => rw [ec] at hm; cases hm; exact pr.elim
    | ex k es => rw [ec] at hm; cases hm; exact pr
    | ok d =>
      rw [ec] at hm
      cases d with
      | bl v =>
        refine ⟨v, rfl, fun H1 s1 => ?_⟩
        have so1 := so'.mono s1
        have sA1 := sA.trans (Cfg.A_mono (c := C.xc) (W := fs'.flatten) s1)
        cases v with
        | true =>
          show (if true = true then _ else _)
          rw [if_pos rfl]
          refine ⟨fun σ2 H2 => ∃ fs2 e2 r2, SO C.T C.xc Γ fs2 H2 σ2 e2 ∧ Same (C.xc.A H fs.flatten) (C.xc.A H2 fs2.flatten) ∧ whN (fun e => ev C.S e c) (fun e => Pv.exec C.S e b) m e2 = some r2 ∧ PF C rt Γ Γl (C.xc.A H fs.flatten) D r2, fun σ2 H2 w => ⟨m, Nat.lt_succ_self m, w⟩, fs', env', so1, ?_⟩
          dsimp only at hm
          cases eb : Pv.exec C.S env' b with
          | nx e =>
            rw [eb] at hm
            intro σ3 H3 fs3 so3 s3
            have ee : ends b = true := by
              cases hh : ends b with
              | true => rfl
              | false => exact absurd eb (ends_nx hh)
            rw [ho ee] at so3
            exact ⟨fs3, e, r, so3, sA1.trans s3, hm, pr⟩
          | ct e =>
            rw [eb] at hm
            exact fun σ3 H3 fs3 so3 s3 => ⟨fs3, e, r, so3, sA1.trans s3, hm, pr⟩
          | bk e =>
            rw [eb] at hm
            cases hm
            exact fun σ3 H3 fs3 so3 s3 => pr _ _ _ so3 (sA1.trans s3)
          | rt d => rw [eb] at hm; cases hm; exact pr
          | ex k es => rw [eb] at hm; cases hm; exact pr
          | bad => rw [eb] at hm; cases hm; exact pr
        | false =>
          show (if false = true then _ else _)
          rw [if_neg Bool.false_ne_true]
          cases hm
          exact pr _ _ _ so1 sA1
      | _ => cases hm; exact pr.elim
def N1 (G : Gt) (N : List Str) (sc : Scope) (fb : Str → Bool) (rt : OT) (Γl Γ : List OT) (e : IS) (x : Stmt) : Prop := ∀ {C : Ct} {X : Cx}, SF G C N sc fb X → chkS G N sc fb rt Γl Γ e x = true → PS X x (rS C rt Γl Γ e)
def N2 (G : Gt) (N : List Str) (sc : Scope) (fb : Str → Bool) (rt : OT) (Γl Γ : List OT) (e : IS) (x : List Stmt) : Prop := ∀ {C : Ct} {X : Cx}, SF G C N sc fb X → chkB G N sc fb rt Γl Γ e x = true → PSs X x (rS C rt Γl Γ e)
theorem snd_s (G : Gt) (N : List Str) (sc : Scope) (fb : Str → Bool) (rt : OT) : (∀ Γl Γ e x, N1 G N sc fb rt Γl Γ e x) ∧ (∀ Γl Γ e x, N2 G N sc fb rt Γl Γ e x) := by
  apply chkS.mutual_induct (motive_1 := N1 G N sc fb rt) (motive_2 := N2 G N sc fb rt)
  case case1 => intro Γl Γ i t e x p v pos C X F h; exact snd_set F h
  case case2 => intro Γl Γ t e es k p v pos C X F h; exact snd_asg F h
  case case3 => intro Γl Γ i k e x p y p2 v p3 C X F h; exact snd_sub F h
  case case4 => intro Γl Γ i e x p a ap v cp p2 C X F h; exact snd_app F h
  case case5 =>
    intro Γl Γ p C X F h
    exact PS.imp ps_pass fun D σ H ⟨fs, env, so, pf⟩ => pf _ _ _ so (Same.refl _)
  case case6 =>
    intro Γl Γ s k p p2 C X F h
    exact PS.imp ps_doc fun D σ H ⟨fs, env, so, pf⟩ => pf _ _ _ so (Same.refl _)
  case case7 =>
    intro Γl Γ e v pos C X F h
    simp only [chkS, Bool.and_eq_true] at h
    refine PS.imp (ps_ret (snd_rR F.xf h.1 h.2)) fun D σ H ⟨fs, env, so, pf⟩ => ?_
    exact ⟨fs, env, so, Pst.fl pf⟩
  case case8 =>
    intro Γl Γ pos C X F h
    have h := OT.isFz_of h
    subst h
    refine PS.imp ps_retN fun D σ H ⟨fs, env, so, pf⟩ => ?_
    exact pf _ _ so.sm ⟨[], List.nodup_nil, (fun a h => by cases h), .fz .non⟩
  case case9 =>
    intro Γl Γ pos C X F h
    have h := OT.beqA_of h
    subst h
    exact PS.imp ps_break fun D σ H ⟨fs, env, so, pf⟩ => pf _ _ _ so (Same.refl _)
  case case10 =>
    intro Γl Γ pos C X F h
    have h := OT.beqA_of h
    subst h
    exact PS.imp ps_continue fun D σ H ⟨fs, env, so, pf⟩ => pf _ _ _ so (Same.refl _)
  case case11 =>
    intro Γl Γ c a b z xs ys pos iha ihb C X F h
    simp only [chkS, Bool.and_eq_true, Bool.or_eq_true, Bool.not_eq_true'] at h
    obtain ⟨⟨⟨⟨h1, h2⟩, h3⟩, h4⟩, h5⟩ := h
    refine snd_iteS (snd_e F.xf h1 h2).2 (iha F h3) (ihb F h4) ?_
    rcases h5 with (h | h) | h
    · exact .inl h
    · exact .inr (.inl h)
    · exact .inr (.inr (OT.beqA_of h))
  case case12 =>
    intro Γl Γ t it b tg iter xs pos ihb C X F h
    simp only [chkS, Bool.and_eq_true, Bool.or_eq_true, Bool.not_eq_true'] at h
    obtain ⟨⟨⟨⟨⟨⟨h1, h2⟩, h3⟩, h4⟩, h5⟩, h6⟩, h7⟩ := h
    refine snd_forS F (snd_i F.xf h1 h3) (sndG F.xf F.fn t tg h4) (ihb F h6) (fold_ok h2) (fun i hi => List.all_eq_true.mp h5 i hi) fun e => ?_
    rcases h7 with h | h
    · rw [e] at h; cases h
    · exact OT.beqA_of h
  case case13 =>
    intro Γl Γ c b z xs pos ihb C X F h
    simp only [chkS, Bool.and_eq_true, Bool.or_eq_true, Bool.not_eq_true'] at h
    obtain ⟨⟨⟨h1, h2⟩, h3⟩, h4⟩ := h
    refine snd_whlS F (snd_e F.xf h1 h2).2 (ihb F h3) fun e => ?_
    rcases h4 with h | h
    · rw [e] at h; cases h
    · exact OT.beqA_of h
  case case14 =>
    intro Γl Γ x C X F h
    exact PS.imp ps_never fun D σ H ⟨fs, env, so, pf⟩ => pf
  case case15 =>
    intro t Γl x x1
    unfold N1
    intros
    rename_i h
    rw [chkS] at h
    · cases h
    all_goals assumption
  case case16 =>
    intro Γl Γ C X F h
    exact PSs.imp pss_nil fun D σ H ⟨fs, env, so, pf⟩ => pf _ _ _ so (Same.refl _)
  case case17 =>
    intro Γl Γ i b xs ih C X F h
    rw [chkB] at h
    refine PSs.imp (ih F h) fun D σ H ⟨fs, env, so, pf⟩ => ?_
    obtain ⟨so', s'⟩ := so.freeze i
    exact ⟨_, env, so', PF.mono pf s'⟩
  case case18 =>
    intro Γl Γ a b x xs hf iha ihb C X F h
    rw [chkB] at h
    · obtain ⟨h1, h2⟩ := and2 h
      refine PSs.imp (pss_cons (iha F h1) (ihb F h2)) fun D σ H ⟨fs, env, so, pf⟩ => ?_
      refine ⟨fs, env, so, ?_⟩
      have pf : PF C rt (out (out Γ a) b) Γl (C.xc.A H fs.flatten) D ((exec C.S env a).andThen fun e => exec C.S e b) := pf
      cases ea : exec C.S env a with
      | nx e =>
        rw [ea] at pf
        exact fun σ' H' fs' so' s' => ⟨fs', e, so', PF.mono pf s'⟩
      | _ => rw [ea] at pf; exact pf
    · exact hf
  case case19 =>
    intro t Γl x x1
    unfold N2
    intros
    rename_i h
    rw [chkB] at h
    · cases h
    all_goals assumption
end
end Pv

/-! Pv, part R: each def of the text keeps its promise. -/
namespace Pv
open PySem PySem.Spec PyProof.Rows L2
/-- a def of the text: its name, its statement, its parameters, the names of its slots, its defaults, its small form -/
structure DI where
  name : Str
  st : Stmt
  ps : List Str
  N : List Str
  F : FD
  dv : List He.Dv := []
def scpB (N P : List Str) (sc : Scope) : Bool := (match sc.kind with | .function => true | _ => false) && !sc.isCoroutine && !sc.isGenerator && decide N.Nodup && decide (N.take P.length = P) && P.all (fun x => match sc.names.lookup x with | some .local => true | some .cell => true | _ => false) &&
  sc.names.all (fun y => match y.2 with | .free => false | _ => true)
theorem scpB_ok {N P : List Str} {sc : Scope} (h : scpB N P sc = true) : FnScope N P sc := by
  unfold scpB at h
  simp only [Bool.and_eq_true, decide_eq_true_eq, List.all_eq_true, Bool.not_eq_true'] at h
  obtain ⟨⟨⟨⟨⟨⟨h1, h2⟩, h3⟩, h4⟩, h5⟩, h6⟩, h7⟩ := h
  refine ⟨?_, h2, h3, h4, h5, fun x hx => ?_, fun y hy e => ?_⟩
  · split at h1
    · assumption
    · cases h1
  · have := h6 x hx
    split at this
    · rename_i e; exact .inl e
    · rename_i e; exact .inr e
    · cases this
  · have := h7 y hy
    rw [e] at this
    cases this
def chkD (G : Gt) (j : Nat) (d : DI) : Bool := scpB d.N d.ps (defScope d.st) && decide (d.F.np = d.ps.length) && decide (d.F.ns = d.N.length) && decide (G.fn[j]? = some d.name) && decide (G.ps[j]? = some d.ps) && OT.beq ((G.rt[j]?).getD .fz) d.F.ty &&
  chkB { G with lv := j } d.N (defScope d.st) (fun _ => true) d.F.ty [] (List.replicate d.N.length .fz) d.F.body (defBody d.st) && (d.F.ty.isFz || !ends d.F.body)
section
variable {G : Gt} {T : Tb} {P : Program} {w : World} {mg : Str → Option Value} {base : Heap}
theorem runF_len {S : Sem1} {F : FD} {ds : List D} (h : runF S F ds ≠ .bad) : ds.length = F.np := by
  unfold runF at h
  split at h
  · rename_i e; exact e
  · exact absurd rfl h
theorem fn_ok {PP : List FD} {j : Nat} {d : DI} {dvs : List V} {f : Addr} {fd : FuncData} (hP : PP[j]? = some d.F) (hc : chkD G j d = true) (ff : FF { G with lv := j } T (fun i => if i < j then sem PP i else fun _ => .bad) j P w mg base)
    (F : FunD T.K d.name d.name (defArgs d.st) (defBody d.st) (defScope d.st) dvs [] f fd) : FnOk P w T.K mg base (L2.CX P w) (j + 1) f fd d.ps (spS T (sem PP) d.F.ty d.ps.length j) := by
  unfold chkD at hc
  simp only [Bool.and_eq_true, decide_eq_true_eq, Bool.or_eq_true, Bool.not_eq_true'] at hc
  obtain ⟨⟨⟨⟨⟨⟨⟨h1, h2⟩, h3⟩, h4⟩, h5⟩, h6⟩, h7⟩, h8⟩ := hc
  have S := scpB_ok h1
  refine F.ok S (fun vs H Q E h => ?_) (fun cdv A outer s H vs Q E hr h => ?_)
  · obtain ⟨U, ds, _, _, hl, _⟩ := h
    exact hl
  · obtain ⟨U, ds, hU, ra, hl, hs⟩ := h
    rw [sem_eq PP hP] at hs
    let SS : Sem1 := fun i => if i < j then sem PP i else fun _ => .bad
    let C : Ct := ⟨T, SS, ⟨U, H, []⟩, fun k es => runF SS d.F ds = .ex k es⟩
    let X := cxOf (L2.CX P w) P w T.K mg base d.N d.name (defScope d.st) f cdv A outer s H E
    have hlen : ds.length = d.F.np := by rw [← ra.length, hl, h2]
    have hns : d.ps.length ≤ d.N.length := by have := congrArg List.length S.pre; rw [List.length_take] at this; omega
    have same_of : ∀ {H' : Hp}, C.xc.Sm H' → Same H H' := fun h a o e => h a o e (by simp [C])
    have take : Takes X (fun cls dd _ H' => E cls dd H') := takes_of rfl rfl rfl rfl
    have SFX : SF { G with lv := j } C d.N (defScope d.st) (fun _ => true) X := by
      refine ⟨⟨rfl, rfl, S.nd, rfl, rfl, hr, ff, passes_call take fun cls dx σ H' q => ?_⟩, passes_of rfl, S.kind, fun _ _ => rfl⟩
      obtain ⟨k, es, xr, sm, ex⟩ := q
      have ex : runF SS d.F ds = .ex k es := ex
      have hs : (match runF SS d.F ds with
        | .ok d' => ∀ v H' (f : List Addr), Same H H' → f.Nodup → New H f → Own T (msk H' fun a => U a ∨ a ∈ f) H' d.F.ty f v d' → Q v H'
        | .ex k es => ∀ cl dx H', Same H H' → ExR T H' cl dx k es → E cl dx H'
        | .bad => False) := hs
      rw [ex] at hs
      exact hs cls dx H' (same_of sm) xr
    refine ⟨_, (snd_s { G with lv := j } d.N (defScope d.st) (fun _ => true) d.F.ty).2 [] _ _ _ SFX h7, ?_⟩
    have eN : d.N.length = ds.length + (d.N.length - ds.length) := by rw [← ra.length, hl]; omega
    have sl := Sl.start (T := T) (A := msk H U) (H := H) (d.N.length - ds.length) ra
    refine ⟨List.replicate d.N.length [], ds.map some ++ List.replicate (d.N.length - ds.length) none, ⟨?_, ?_, ?_, ?_, hU, ?_⟩, ?_⟩
    · rw [show L2.start d.N vs = vs.map some ++ List.replicate (d.N.length - ds.length) none by unfold L2.start; rw [ra.length]]
      have sl' := sl.mono (A' := Cfg.A C.xc H (List.replicate d.N.length ([] : List Addr)).flatten) (H' := H) (msk_mono (Same.refl _) fun a q => by
        rcases q with q | q
        · exact .inl q
        · simp at q) fun _ _ _ h => h
      rw [← eN] at sl'
      exact sl'
    · simp
    · intro a ha; simp at ha
    · intro a ha; simp at ha
    · exact fun a o h _ => h
    · have hr : runF SS d.F ds = (Pv.exec SS (ds.map some ++ List.replicate (d.N.length - ds.length) none) d.F.body).out := by
        unfold runF
        rw [if_pos hlen, h3, hlen]
      have hs : (match runF SS d.F ds with
        | .ok d' => ∀ v H' (f : List Addr), Same H H' → f.Nodup → New H f → Own T (msk H' fun a => U a ∨ a ∈ f) H' d.F.ty f v d' → Q v H'
        | .ex k es => ∀ cl dx H', Same H H' → ExR T H' cl dx k es → E cl dx H'
        | .bad => False) := hs
      show PF C d.F.ty _ [] _ _ (Pv.exec SS (ds.map some ++ List.replicate (d.N.length - ds.length) none) d.F.body)
      cases ee : Pv.exec SS (ds.map some ++ List.replicate (d.N.length - ds.length) none) d.F.body with
      | nx e =>
        rw [hr, ee] at hs
        intro σ' H' fs' so' _
        have tz : d.F.ty = .fz := by
          rcases h8 with h8 | h8
          · exact OT.isFz_of h8
          · exact absurd ee (ends_nx h8)
        have hs : ∀ v H' (f : List Addr), Same H H' → f.Nodup → New H f → Own T (msk H' fun a => U a ∨ a ∈ f) H' d.F.ty f v .non → Q v H' := hs
        exact hs .non H' [] (same_of so'.sm) List.nodup_nil (fun a h => by cases h) (by rw [tz]; exact .fz .non)
      | bk e => rw [hr, ee] at hs; exact hs.elim
      | ct e => rw [hr, ee] at hs; exact hs.elim
      | bad => rw [hr, ee] at hs; exact hs.elim
      | ex k es =>
        show runF SS d.F ds = .ex k es
        rw [hr, ee]; rfl
      | rt r =>
        rw [hr, ee] at hs
        intro v H' sm q
        obtain ⟨f', nf, wf, o⟩ := q
        have hs : ∀ v H' (f : List Addr), Same H H' → f.Nodup → New H f → Own T (msk H' fun a => U a ∨ a ∈ f) H' d.F.ty f v r → Q v H' := hs
        exact hs v H' f' (same_of sm) nf (fun a ha => (wf a ha).elim id fun z => by simp [C] at z) o
/-- what the top has of a def -/
def DOk (K : PySem.W.Frag) (mg : Str → Option Value) (d : DI) : Prop := ∃ f fd dvs, mg d.name = some (.ref f) ∧ FunD K d.name d.name (defArgs d.st) (defBody d.st) (defScope d.st) dvs [] f fd ∧ Binds K fd d.ps []
theorem all_ok {ds : List DI} (hc : ∀ j d, ds[j]? = some d → chkD G j d = true) (hd : ∀ d ∈ ds, DOk T.K mg d) (gl : ∀ p ∈ G.gl, ∃ v u, mg p.1 = some u ∧ RelV v u ∧ ∀ H, Rep T H v p.2) (bl : ∀ x ∈ G.bl, mg x = none) (gc : G.gc = true → mg "gcd" = some (.builtin "math.gcd")) (hl : G.fn.length = ds.length) :
    ∀ n, FF { G with lv := n } T (fun i => if i < n then sem (ds.map (·.F)) i else fun _ => .bad) n P w mg base := by
  intro n
  induction n using Nat.strongRecOn with
  | ind n ih =>
    refine ⟨fun j x hj hx => ?_, gl, bl, gc⟩
    have hj2 : j < ds.length := by
      rw [← hl]
      exact (List.getElem?_eq_some_iff.mp hx).1
    have ed : ds[j]? = some ds[j] := List.getElem?_eq_getElem hj2
    obtain ⟨f, fd, dvs, hm, F, B⟩ := hd ds[j] (List.getElem_mem hj2)
    have hcd := hc j ds[j] ed
    have hP : (ds.map (·.F))[j]? = some ds[j].F := by rw [List.getElem?_map, ed]; rfl
    have fo := fn_ok hP hcd (ih j hj) F
    unfold chkD at hcd
    simp only [Bool.and_eq_true, decide_eq_true_eq] at hcd
    obtain ⟨⟨⟨⟨⟨⟨⟨h1, h2⟩, h3⟩, h4⟩, h5⟩, h6⟩, h7⟩, h8⟩ := hcd
    have hx : G.fn[j]? = some x := hx
    rw [h4] at hx
    cases hx
    refine ⟨f, fd, ds[j].ps, h5, hm, F.kp, B, fun es hne => ?_, ?_⟩
    · simp only [if_pos hj] at hne
      rw [sem_eq _ hP] at hne
      rw [runF_len hne, h2]
    · rw [OT.beq_of h6]
      refine fo.imp fun vs H Q E q => ?_
      obtain ⟨U, es, hU, ra, hl, hs⟩ := q
      simp only [if_pos hj] at hs
      exact ⟨U, es, hU, ra, hl, hs⟩
end
end Pv

/-! Pv, part S: a law's end: what the top has written, the law's own head. -/
namespace Pv
open PySem PySem.Spec PyProof.Rows L2
/-! ### constants of the module -/
mutual
def repK (K : PySem.W.Frag) : Value → D → Bool
  | .none, .non => true
  | .bool a, .bl b => a == b
  | .int i _, .int j => decide (i = j)
  | .str x _, .str y => decide (x = y)
  | .ref a, .tup ds => (match K.lookup a with
    | some ⟨.type c, _, .seq its _, _⟩ => decide (c = "tuple") && decide (its.size ≤ sizeLine) && repKA K its.toList ds
    | _ => false)
  | _, _ => false
def repKA (K : PySem.W.Frag) : List Value → List D → Bool
  | [], [] => true
  | u :: us, d :: ds => repK K u d && repKA K us ds
  | _, _ => false
end
mutual
theorem repK_ok {T : Tb} : ∀ {d : D} {u : Value}, repK T.K u d = true → ∃ v, RelV v u ∧ ∀ H, Rep T H v d
  | .non, u, h => by
    cases u <;> first | (simp [repK] at h; done) | exact ⟨.non, rfl, fun _ => .non⟩
  | .bl b, u, h => by
    cases u <;> first
      | (simp [repK] at h; done)
      | (rename_i a
         refine ⟨.bl a, rfl, fun _ => ?_⟩
         have h : (a == b) = true := h
         rw [beq_iff_eq] at h
         rw [h]
         exact .bl b)
  | .int j, u, h => by
    cases u <;> first
      | (simp [repK] at h; done)
      | (rename_i i t
         exact ⟨.int i, ⟨t, rfl⟩, fun _ => by rw [of_decide_eq_true h]; exact .int j⟩)
  | .str y, u, h => by
    cases u <;> first
      | (simp [repK] at h; done)
      | (rename_i x t
         refine ⟨.str x, ⟨t, rfl⟩, fun _ => ?_⟩
         have h : decide (x = y) = true := h
         rw [of_decide_eq_true h]
         exact .str y)
  | .tup ds, u, h => by
    cases u <;> try (simp [repK] at h; done)
    rename_i a
    unfold repK at h
    split at h
    · rename_i c od its n sl q
      simp only [Bool.and_eq_true, decide_eq_true_eq] at h
      obtain ⟨⟨h1, h2⟩, h3⟩ := h
      obtain ⟨vs, r1, r2⟩ := repKA_ok h3
      exact ⟨.ref a, rfl, fun H => .tup (.inr ⟨_, its, n, q, congrArg Value.type h1, rfl, h2, r1⟩) (r2 H)⟩
    · cases h
  | .lst _, u, h | .scr _, u, h | .obj _ _ _, u, h => by cases u <;> simp [repK] at h
theorem repKA_ok {T : Tb} : ∀ {ds : List D} {us : List Value}, repKA T.K us ds = true → ∃ vs, Vals vs us ∧ ∀ H, RepA T H vs ds
  | [], us, h => by
    cases us with
    | nil => exact ⟨[], .nil, fun _ => .nil⟩
    | cons u us => simp [repKA] at h
  | d :: ds, us, h => by
    cases us with
    | nil => simp [repKA] at h
    | cons u us =>
      unfold repKA at h
      obtain ⟨h1, h2⟩ := and2 h
      obtain ⟨v, r1, r2⟩ := repK_ok h1
      obtain ⟨vs, q1, q2⟩ := repKA_ok h2
      exact ⟨v :: vs, .cons r1 q1, fun H => .cons (r2 H) (q2 H)⟩
end
/-! ### facts of the top -/
def gfB (K : PySem.W.Frag) (gl : List (Str × D)) (gc : Bool) : Bool := (gl.all fun p => match PySem.W.nsIn K mainGlobals p.1 with
    | some (some u) => repK K u p.2
    | _ => false) && (!gc || He.eqO (PySem.W.nsIn K mainGlobals "gcd") (some (some (.builtin "math.gcd"))))
def DI.dd (d : DI) : He.DefD := ⟨(d.name, none), d.name, d.name, defArgs d.st, defBody d.st, defScope d.st, d.dv, []⟩
def faL (G : Gt) (ds : List DI) : List He.Fa := ds.map (fun d => .glo d.name) ++ G.bl.map .free
def BindOk (d : DI) : Prop := ∀ (K : PySem.W.Frag) (f : Addr) (fd : FuncData), FunD K d.name d.name (defArgs d.st) (defBody d.st) (defScope d.st) (d.dv.map (He.Dv.v K)) [] f fd → Binds K fd d.ps []
inductive AllB : List DI → Prop
  | nil : AllB []
  | cons {d ds} : BindOk d → AllB ds → AllB (d :: ds)
theorem AllB.get : ∀ {ds : List DI}, AllB ds → ∀ d ∈ ds, BindOk d
  | _, .cons b r, d, h => (List.mem_cons.mp h).elim (fun e => by rw [e]; exact b) (AllB.get r d)
def chkL (G : Gt) : Nat → List DI → Bool
  | _, [] => true
  | j, d :: ds => chkD G j d && chkL G (j + 1) ds
theorem chkL_ok {G : Gt} : ∀ {j : Nat} {ds : List DI}, chkL G j ds = true → ∀ i d, ds[i]? = some d → chkD G (j + i) d = true
  | j, [], _, i, d, e => by simp at e
  | j, d0 :: ds, h, 0, d, e => by
    simp at e; subst e
    exact (and2 h).1
  | j, d0 :: ds, h, i + 1, d, e => by
    have := chkL_ok (and2 h).2 i d (by simpa using e)
    rw [show j + 1 + i = j + (i + 1) by omega] at this
    exact this
abbrev tbl (K : PySem.W.Frag) : Tb := ⟨K, fun _ => none⟩
theorem cx_none {P : Program} {w : World} {H : Hp} {s : Shared} {e : Value} {s' : Shared} (h : L2.CX P w [] H s (fun _ _ _ => False) e s') : False := by
  obtain ⟨_, _, _, _, _, _, _, _, _, _, _, _, z⟩ := h
  exact z.elim
theorem law_at {l : PySem.W.OpenLaw} {w : World} {K : PySem.W.Frag} {mg : Str → Option Value} {fa : Addr} {h : Heap} {n jl : Nat} {x : Str} {ds : List DI} {d : DI} {G : Gt} (X : K.In h) (GG : h.Ns mainGlobals mg) (hc : chkL G 0 ds = true) (hb : AllB ds) (hl : G.fn.length = ds.length)
    (c : He.SaysD (faL G ds) (ds.map DI.dd) K) (ex : gfB K G.gl G.gc = true) (hd : ds[jl]? = some d) (hfa : mg d.name = some (.ref fa)) (hps : d.ps = [x]) (hty : d.F.ty = .fz) (hdv : d.dv = [])
    (hbl : ∀ (kV doc pm : Value) (an : Option Addr) (cdv ct : Value) (us : List Value), us.length = d.ps.length → bindArgs (PySem.W.fnOf d.name d.name (defArgs d.st) (defBody d.st) (defScope d.st) .none kV doc pm an cdv ct) ⟨us, []⟩ = pure (d.ps.zip us))
    (math : ∀ ns : List Int, ns.length ≤ n → (∀ z ∈ ns, Builtin.Int.intBits z ≤ 1048576) → sem (ds.map (·.F)) jl [.scr ns] = .ok (.bl true)) : LamX.LawAtS l w K (L2.CX l.prog w) (jl + 1) n x mg fa h := by
  have dok : ∀ d' ∈ ds, DOk K mg d' := fun d' hm => by
    obtain ⟨fd, F⟩ := c.defs (d := d'.dd) (List.mem_map_of_mem hm)
    have g := He.glo_ok X GG (c.facts (f := .glo d'.name) (List.mem_append_left _ (List.mem_map.mpr ⟨d', hm, rfl⟩)))
    have F' : FunD K d'.name d'.name (defArgs d'.st) (defBody d'.st) (defScope d'.st) (d'.dv.map (He.Dv.v K)) [] (He.ga K d'.name) fd := F
    exact ⟨_, fd, _, g, F', hb.get d' hm K _ fd F'⟩
  have hmem : d ∈ ds := List.mem_of_getElem? hd
  obtain ⟨fd, F⟩ := c.defs (d := d.dd) (List.mem_map_of_mem hmem)
  have g := He.glo_ok X GG (c.facts (f := .glo d.name) (List.mem_append_left _ (List.mem_map.mpr ⟨d, hmem, rfl⟩)))
  have F' : FunD K d.name d.name (defArgs d.st) (defBody d.st) (defScope d.st) (d.dv.map (He.Dv.v K)) [] (He.ga K d.name) fd := F
  have e := hfa.symm.trans g
  cases e
  rw [hdv] at F'
  obtain ⟨ex1, ex2⟩ := and2 ex
  refine ⟨fd, [], spS (tbl K) (sem (ds.map (·.F))) .fz 1 jl, (fun p hp => by cases hp), (fun p hp => by cases hp), (fun p hp => by cases hp), fun s u => ?_, fun H a ns hn hbits _ hS => ?_, fun base X' GG' _ => ?_⟩
  · have z := FunD.bindsA (ps := d.ps) F' hbl s [u] (by rw [hps]; rfl)
    rw [hps] at z
    exact z
  · refine ⟨fun _ => False, [.scr ns], (fun _ h => h.elim), .cons (.scr ?_) .nil, rfl, ?_⟩
    · exact Same.seq (fun b o e => msk_some.mpr ⟨id, e⟩) hS
    · rw [math ns hn hbits]
      intro v H' f _ _ _ o
      cases o with
      | fz r => cases r; rfl
  · have hP : (ds.map (·.F))[jl]? = some d.F := by rw [List.getElem?_map, hd]; rfl
    have ff := all_ok (G := G) (T := tbl K) (P := l.prog) (w := w) (base := base) (mg := mg) (ds := ds) (fun j d hj => by have := chkL_ok hc j d hj; rwa [Nat.zero_add] at this) dok
      (fun p hp => by
        have := List.all_eq_true.mp ex1 p hp
        split at this
        · rename_i u q
          obtain ⟨v, r1, r2⟩ := repK_ok (T := tbl K) this
          exact ⟨v, u, PySem.W.mg_of X GG q, r1, r2⟩
        · cases this)
      (fun y hy => He.free_ok X GG (c.facts (f := .free y) (List.mem_append_right _ (List.mem_map.mpr ⟨y, hy, rfl⟩))))
      (fun hgc => by
        rw [hgc] at ex2
        exact PySem.W.mg_of X GG (He.eqO_ok ex2)) hl jl
    have := fn_ok hP (by have := chkL_ok hc jl d hd; rwa [Nat.zero_add] at this) ff F'
    rw [hty, hps] at this
    exact this
end Pv

/-! Pv, part T: fractions: what the text's pairs of ints stand for. -/
namespace Pv
open PySem PySem.Spec PyProof.Rows L2
/-! ### sizes -/
theorem log2_le {n k : Nat} (h : n < 2 ^ k) : n.log2 ≤ k := by
  by_cases e : n = 0
  · subst e; simp
  · exact Nat.le_of_lt ((Nat.log2_lt e).mpr h)
theorem mulOk_of {i j : Int} {k l : Nat} (hi : i.natAbs < 2 ^ k) (hj : j.natAbs < 2 ^ l) (h : k + l < 1000000) : mulOk i j = true := by
  unfold mulOk
  have := log2_le hi
  have := log2_le hj
  exact decide_eq_true (by omega)
theorem divOk_of {j : Int} {k : Nat} (hj : j.natAbs < 2 ^ k) (h0 : j ≠ 0) (h : k < 9000) : divOk j = true := by
  unfold divOk
  have := log2_le hj
  simp [h0]
  omega
theorem mul_sz {i j : Int} {k l : Nat} (hi : i.natAbs < 2 ^ k) (hj : j.natAbs < 2 ^ l) : (i * j).natAbs < 2 ^ (k + l) := by
  rw [Int.natAbs_mul, Nat.pow_add]
  exact Nat.mul_lt_mul'' hi hj
theorem add_sz {i j : Int} {k : Nat} (hi : i.natAbs < 2 ^ k) (hj : j.natAbs < 2 ^ k) : (i + j).natAbs < 2 ^ (k + 1) := by
  rw [Nat.pow_succ]
  omega
theorem sub_sz {i j : Int} {k : Nat} (hi : i.natAbs < 2 ^ k) (hj : j.natAbs < 2 ^ k) : (i - j).natAbs < 2 ^ (k + 1) := by
  rw [Nat.pow_succ]
  omega
theorem pow_le {k l n : Nat} (h : n < 2 ^ k) (hl : k ≤ l) : n < 2 ^ l := Nat.lt_of_lt_of_le h (Nat.pow_le_pow_right (by decide) hl)
/-! ### fractions -/
def fr (q : Rat) : D := .tup [.int q.num, .int (q.den : Int)]
structure Sz (q : Rat) (k : Nat) : Prop where
  n : q.num.natAbs < 2 ^ k
  d : q.den < 2 ^ k
theorem Sz.mono {q : Rat} {k l : Nat} (h : Sz q k) (hl : k ≤ l) : Sz q l := ⟨pow_le h.n hl, pow_le h.d hl⟩
theorem Sz.d' {q : Rat} {k : Nat} (h : Sz q k) : (q.den : Int).natAbs < 2 ^ k := h.d
theorem gcd_dvd_l (n d : Int) : ((Int.gcd n d : Nat) : Int) ∣ n := Int.gcd_dvd_left ..
theorem gcd_dvd_r (n d : Int) : ((Int.gcd n d : Nat) : Int) ∣ d := Int.gcd_dvd_right ..
theorem gcd_pos {n d : Int} (h : d ≠ 0) : 0 < Int.gcd n d := Int.gcd_pos_of_ne_zero_right n h
/-- n and d by their common measure, the sign at the top -/
theorem fr_divInt {n d : Int} (h : d ≠ 0) : fr (Rat.divInt n d) = .tup [.int (n.fdiv (if d < 0 then -(Int.gcd n d : Nat) else (Int.gcd n d : Nat))), .int (d.fdiv (if d < 0 then -(Int.gcd n d : Nat) else (Int.gcd n d : Nat)))] := by
  have g0 : ((Int.gcd n d : Nat) : Int) ≠ 0 := by have := gcd_pos (n := n) h; omega
  obtain ⟨a, ha⟩ := gcd_dvd_l n d
  obtain ⟨b, hb⟩ := gcd_dvd_r n d
  unfold fr
  rw [Rat.num_divInt, Rat.den_divInt, if_neg h, Int.gcd_comm d n]
  have e1 : d.sign * n / ((Int.gcd n d : Nat) : Int) = n.fdiv (if d < 0 then -(Int.gcd n d : Nat) else (Int.gcd n d : Nat)) := by
    split
    · rename_i hd
      rw [Int.sign_eq_neg_one_of_neg hd]
      have : n.fdiv (-((Int.gcd n d : Nat) : Int)) = -a := by
        conv => lhs; lhs; rw [ha]
        rw [show ((Int.gcd n d : Nat) : Int) * a = -((Int.gcd n d : Nat) : Int) * (-a) by rw [Int.neg_mul_neg]]
        exact Int.mul_fdiv_cancel_left _ (by omega)
      rw [this]
      conv => lhs; lhs; rw [ha]
      rw [show (-1 : Int) * (((Int.gcd n d : Nat) : Int) * a) = ((Int.gcd n d : Nat) : Int) * (-a) by rw [Int.mul_neg]; omega]
      exact Int.mul_ediv_cancel_left _ g0
    · rename_i hd
      have hd : 0 < d := by omega
      rw [Int.sign_eq_one_of_pos hd, Int.one_mul]
      conv => lhs; lhs; rw [ha]
      conv => rhs; lhs; rw [ha]
      rw [Int.mul_fdiv_cancel_left _ g0, Int.mul_ediv_cancel_left _ g0]
  have e2 : ((d.natAbs / Int.gcd n d : Nat) : Int) = d.fdiv (if d < 0 then -(Int.gcd n d : Nat) else (Int.gcd n d : Nat)) := by
    rw [Int.natCast_ediv]
    split
    · rename_i hd
      have : d.fdiv (-((Int.gcd n d : Nat) : Int)) = -b := by
        conv => lhs; lhs; rw [hb]
        rw [show ((Int.gcd n d : Nat) : Int) * b = -((Int.gcd n d : Nat) : Int) * (-b) by rw [Int.neg_mul_neg]]
        exact Int.mul_fdiv_cancel_left _ (by omega)
      rw [this, show ((d.natAbs : Nat) : Int) = -d by omega]
      conv => lhs; lhs; rw [hb]
      rw [show -(((Int.gcd n d : Nat) : Int) * b) = ((Int.gcd n d : Nat) : Int) * (-b) by rw [Int.mul_neg]]
      exact Int.mul_ediv_cancel_left _ g0
    · rename_i hd
      rw [show ((d.natAbs : Nat) : Int) = d by omega]
      conv => lhs; lhs; rw [hb]
      conv => rhs; lhs; rw [hb]
      rw [Int.mul_fdiv_cancel_left _ g0, Int.mul_ediv_cancel_left _ g0]
  rw [e1, e2]
theorem sz_divInt {n d : Int} {k : Nat} (h : d ≠ 0) (hn : n.natAbs < 2 ^ k) (hd : d.natAbs < 2 ^ k) : Sz (Rat.divInt n d) k := by
  refine ⟨?_, ?_⟩
  · rw [Rat.num_divInt]
    refine Nat.lt_of_le_of_lt ?_ hn
    refine Nat.le_trans (Int.natAbs_ediv_le_natAbs _ _) ?_
    rw [Int.natAbs_mul]
    have : d.sign.natAbs ≤ 1 := by
      rcases Int.lt_trichotomy d 0 with z | z | z
      · rw [Int.sign_eq_neg_one_of_neg z]; decide
      · rw [z]; decide
      · rw [Int.sign_eq_one_of_pos z]; decide
    calc d.sign.natAbs * n.natAbs ≤ 1 * n.natAbs := Nat.mul_le_mul_right _ this
      _ = n.natAbs := Nat.one_mul _
  · rw [Rat.den_divInt, if_neg h]
    exact Nat.lt_of_le_of_lt (Nat.div_le_self _ _) hd
theorem den_ne (q : Rat) : (q.den : Int) ≠ 0 := by have := q.den_nz; omega
theorem den_pos (q : Rat) : (0 : Int) < q.den := by have := q.den_nz; omega
theorem divInt_add (a b : Rat) : Rat.divInt (a.num * b.den + b.num * a.den) (a.den * b.den) = a + b := by
  rw [← Rat.divInt_add_divInt _ _ (den_ne a) (den_ne b), Rat.num_divInt_den, Rat.num_divInt_den]
theorem divInt_mul (a b : Rat) : Rat.divInt (a.num * b.num) (a.den * b.den) = a * b := by
  rw [← Rat.divInt_mul_divInt, Rat.num_divInt_den, Rat.num_divInt_den]
theorem divInt_neg' (a : Rat) : Rat.divInt (-a.num) a.den = -a := by
  have := Rat.num_divInt_den (-a)
  rw [Rat.neg_num, Rat.neg_den] at this
  exact this
theorem divInt_sub (a b : Rat) : Rat.divInt (a.num * b.den - b.num * a.den) (a.den * b.den) = a - b := by
  have := divInt_add a (-b)
  rw [Rat.neg_num, Rat.neg_den] at this
  rw [Rat.sub_eq_add_neg, ← this]
  congr 1
  rw [Int.neg_mul, Int.sub_eq_add_neg]
/-! ### the text's own fractions -/
def fracFD : FD := ⟨2, 3, .fz, (.seq (.ite (.cmp .eq (.vr 1) (.ct (.int 0))) (.seq .never .skip) .skip) (.seq (.set 2 .fz (.blt .gcd (.cons (.vr 0) (.cons (.vr 1) .nil)))) (.seq (.ite (.cmp .lt (.vr 1) (.ct (.int 0))) (.seq (.set 2 .fz (.neg (.vr 2))) .skip) .skip) (.seq (.ret (.tp (.cons (.bin .fdiv (.vr 0) (.vr 2)) (.cons (.bin .fdiv (.vr 1) (.vr 2)) .nil)))) .skip))))⟩
theorem gcd_sz {n d : Int} {k : Nat} (h : d ≠ 0) (hd : d.natAbs < 2 ^ k) : Int.gcd n d < 2 ^ k :=
  Nat.lt_of_le_of_lt (Nat.le_of_dvd (by omega) (Nat.gcd_dvd_right n.natAbs d.natAbs)) hd
section
variable {P : List FD}
theorem eqD_int (i j : Int) : eqD (.int i) (.int j) = .ok (.bl (i == j)) := rfl
theorem frac_ok {j : Nat} (hP : P[j]? = some fracFD) {n d : Int} {k : Nat} (h : d ≠ 0) (hd : d.natAbs < 2 ^ k) (hk : k < 9000) : sem P j [.int n, .int d] = .ok (fr (Rat.divInt n d)) := by
  have g1 := gcd_sz (n := n) h hd
  have g0 := gcd_pos (n := n) h
  have e : ∀ g : Int, g.natAbs = Int.gcd n d → divOk g = true := fun g hg => divOk_of (k := k) (by rw [hg]; exact g1) (by omega) hk
  rw [sem_eq P hP, fr_divInt h]
  have hz : (d == 0) = false := by simp [h]
  by_cases hs : d < 0
  · have e1 := e (-(Int.gcd n d : Nat)) (by omega)
    have e2 : (decide (d < 0)) = true := by simp [hs]
    have g' : Nat.gcd n.natAbs d.natAbs = Int.gcd n d := rfl
    simp [runF, fracFD, exec, ev, cmpD, eqD_int, cmpI, hz, e2, bltD, binD, mkT, lim, Fl.out, g', e1, hs]
  · have e1 := e ((Int.gcd n d : Nat)) (by omega)
    have e2 : (decide (d < 0)) = false := by simp [hs]
    have g' : Nat.gcd n.natAbs d.natAbs = Int.gcd n d := rfl
    simp [runF, fracFD, exec, ev, cmpD, eqD_int, cmpI, hz, e2, bltD, binD, mkT, lim, Fl.out, g', e1, hs]
/-! plus, minus, times, .. each a def that makes two ints and calls frac -/
def pA : IE := .ix (.vr 0) (.ct (.int 0))
def pB : IE := .ix (.vr 0) (.ct (.int 1))
def qA : IE := .ix (.vr 1) (.ct (.int 0))
def qB : IE := .ix (.vr 1) (.ct (.int 1))
def plusFD (jf : Nat) : FD := ⟨2, 2, .fz, (.seq (.ret (.call jf (.cons (.bin .add (.bin .mul (.ix (.vr 0) (.ct (.int 0))) (.ix (.vr 1) (.ct (.int 1)))) (.bin .mul (.ix (.vr 1) (.ct (.int 0))) (.ix (.vr 0) (.ct (.int 1))))) (.cons (.bin .mul (.ix (.vr 0) (.ct (.int 1))) (.ix (.vr 1) (.ct (.int 1)))) .nil)))) .skip)⟩
def minusFD (jf : Nat) : FD := ⟨2, 2, .fz, (.seq (.ret (.call jf (.cons (.bin .sub (.bin .mul (.ix (.vr 0) (.ct (.int 0))) (.ix (.vr 1) (.ct (.int 1)))) (.bin .mul (.ix (.vr 1) (.ct (.int 0))) (.ix (.vr 0) (.ct (.int 1))))) (.cons (.bin .mul (.ix (.vr 0) (.ct (.int 1))) (.ix (.vr 1) (.ct (.int 1)))) .nil)))) .skip)⟩
def timesFD (jf : Nat) : FD := ⟨2, 2, .fz, (.seq (.ret (.call jf (.cons (.bin .mul (.ix (.vr 0) (.ct (.int 0))) (.ix (.vr 1) (.ct (.int 0)))) (.cons (.bin .mul (.ix (.vr 0) (.ct (.int 1))) (.ix (.vr 1) (.ct (.int 1)))) .nil)))) .skip)⟩
def belowFD : FD := ⟨2, 2, .fz, (.seq (.ret (.cmp .lt (.bin .mul (.ix (.vr 0) (.ct (.int 0))) (.ix (.vr 1) (.ct (.int 1)))) (.bin .mul (.ix (.vr 1) (.ct (.int 0))) (.ix (.vr 0) (.ct (.int 1)))))) .skip)⟩
def atmostFD : FD := ⟨2, 2, .fz, (.seq (.ret (.cmp .le (.bin .mul (.ix (.vr 0) (.ct (.int 0))) (.ix (.vr 1) (.ct (.int 1)))) (.bin .mul (.ix (.vr 1) (.ct (.int 0))) (.ix (.vr 0) (.ct (.int 1)))))) .skip)⟩
/-- what makes a fraction of two ints: frac or the law's own -/
def MkQ (P : List FD) (j : Nat) : Prop := ∀ (n d : Int) (k : Nat), 0 < d → n.natAbs < 2 ^ k → d.natAbs < 2 ^ k → k < 9000 → sem P j [.int n, .int d] = .ok (fr (Rat.divInt n d))
theorem mkq_frac {j : Nat} (hP : P[j]? = some fracFD) : MkQ P j := fun n d k h hn hd hk => frac_ok hP (by omega) hd hk
theorem at0 (x y : D) : atD [x, y] 0 = .ok x := rfl
theorem at1 (x y : D) : atD [x, y] 1 = .ok y := rfl
theorem den_mul_pos (a b : Rat) : (0 : Int) < a.den * b.den := Int.mul_pos (den_pos a) (den_pos b)
theorem plus_ok {j jf : Nat} (hP : P[j]? = some (plusFD jf)) (hj : jf < j) (hf : MkQ P jf) {a b : Rat} {k l : Nat} (ha : Sz a k) (hb : Sz b l) (hk : k + l + 1 < 9000) : sem P j [fr a, fr b] = .ok (fr (a + b)) ∧ Sz (a + b) (k + l + 1) := by
  have m1 := mulOk_of ha.n hb.d' (by omega)
  have m2 := mulOk_of hb.n ha.d' (by omega)
  have m3 := mulOk_of ha.d' hb.d' (by omega)
  have z1 : (a.num * b.den + b.num * a.den).natAbs < 2 ^ (k + l + 1) := add_sz (mul_sz ha.n hb.d') (by rw [Nat.add_comm k l]; exact mul_sz hb.n ha.d')
  have z2 : ((a.den : Int) * b.den).natAbs < 2 ^ (k + l + 1) := pow_le (mul_sz ha.d' hb.d') (by omega)
  have c := hf _ _ _ (den_mul_pos a b) z1 z2 hk
  rw [divInt_add] at c
  refine ⟨?_, ?_⟩
  · rw [sem_eq P hP]
    simp [runF, plusFD, exec, ev, fr, ixD, at0, at1, binD, m1, m2, m3, hj, Fl.out]
    rw [c]
    rfl
  · have := sz_divInt (by have := den_mul_pos a b; omega) z1 z2
    rw [divInt_add] at this
    exact this
theorem minus_ok {j jf : Nat} (hP : P[j]? = some (minusFD jf)) (hj : jf < j) (hf : MkQ P jf) {a b : Rat} {k l : Nat} (ha : Sz a k) (hb : Sz b l) (hk : k + l + 1 < 9000) : sem P j [fr a, fr b] = .ok (fr (a - b)) ∧ Sz (a - b) (k + l + 1) := by
  have m1 := mulOk_of ha.n hb.d' (by omega)
  have m2 := mulOk_of hb.n ha.d' (by omega)
  have m3 := mulOk_of ha.d' hb.d' (by omega)
  have z1 : (a.num * b.den - b.num * a.den).natAbs < 2 ^ (k + l + 1) := sub_sz (mul_sz ha.n hb.d') (by rw [Nat.add_comm k l]; exact mul_sz hb.n ha.d')
  have z2 : ((a.den : Int) * b.den).natAbs < 2 ^ (k + l + 1) := pow_le (mul_sz ha.d' hb.d') (by omega)
  have c := hf _ _ _ (den_mul_pos a b) z1 z2 hk
  rw [divInt_sub] at c
  refine ⟨?_, ?_⟩
  · rw [sem_eq P hP]
    simp [runF, minusFD, exec, ev, fr, ixD, at0, at1, binD, m1, m2, m3, hj, Fl.out]
    rw [c]
    rfl
  · have := sz_divInt (by have := den_mul_pos a b; omega) z1 z2
    rw [divInt_sub] at this
    exact this
theorem times_ok {j jf : Nat} (hP : P[j]? = some (timesFD jf)) (hj : jf < j) (hf : MkQ P jf) {a b : Rat} {k l : Nat} (ha : Sz a k) (hb : Sz b l) (hk : k + l < 9000) : sem P j [fr a, fr b] = .ok (fr (a * b)) ∧ Sz (a * b) (k + l) := by
  have m1 := mulOk_of ha.n hb.n (by omega)
  have m3 := mulOk_of ha.d' hb.d' (by omega)
  have z1 : (a.num * b.num).natAbs < 2 ^ (k + l) := mul_sz ha.n hb.n
  have z2 : ((a.den : Int) * b.den).natAbs < 2 ^ (k + l) := mul_sz ha.d' hb.d'
  have c := hf _ _ _ (den_mul_pos a b) z1 z2 hk
  rw [divInt_mul] at c
  refine ⟨?_, ?_⟩
  · rw [sem_eq P hP]
    simp [runF, timesFD, exec, ev, fr, ixD, at0, at1, binD, m1, m3, hj, Fl.out]
    rw [c]
    rfl
  · have := sz_divInt (by have := den_mul_pos a b; omega) z1 z2
    rw [divInt_mul] at this
    exact this
theorem below_ok {j : Nat} (hP : P[j]? = some belowFD) {a b : Rat} {k l : Nat} (ha : Sz a k) (hb : Sz b l) (hk : k + l < 1000000) : sem P j [fr a, fr b] = .ok (.bl (decide (a < b))) := by
  have m1 := mulOk_of ha.n hb.d' (by omega)
  have m2 := mulOk_of hb.n ha.d' (by omega)
  rw [sem_eq P hP]
  simp [runF, belowFD, exec, ev, fr, ixD, at0, at1, binD, m1, m2, Fl.out, cmpD, cmpI, Rat.lt_iff]
theorem atmost_ok {j : Nat} (hP : P[j]? = some atmostFD) {a b : Rat} {k l : Nat} (ha : Sz a k) (hb : Sz b l) (hk : k + l < 1000000) : sem P j [fr a, fr b] = .ok (.bl (decide (a ≤ b))) := by
  have m1 := mulOk_of ha.n hb.d' (by omega)
  have m2 := mulOk_of hb.n ha.d' (by omega)
  rw [sem_eq P hP]
  simp [runF, atmostFD, exec, ev, fr, ixD, at0, at1, binD, m1, m2, Fl.out, cmpD, cmpI, Rat.le_iff]
end
end Pv

/-! Pv, part U: loops and comprehensions over plain data; what every law draws its input with. -/
namespace Pv
open PySem PySem.Spec PyProof.Rows L2
/-! ### loops -/
theorem forL_go {α : Type} {f : D → Env → Fl} {enc : α → D} {I : List α → Env → Prop} {whole : List α} (st : ∀ (done : List α) (x : α) (rest : List α) (env : Env), whole = done ++ x :: rest → I done env → ∃ env', f (enc x) env = .nx env' ∧ I (done ++ [x]) env') :
    ∀ (xs done : List α) (env : Env), whole = done ++ xs → I done env → ∃ env', forL f (xs.map enc) env = .nx env' ∧ I whole env'
  | [], done, env, e, h => ⟨env, rfl, by rw [e, List.append_nil]; exact h⟩
  | x :: xs, done, env, e, h => by
    obtain ⟨e1, h1, h2⟩ := st done x xs env e h
    obtain ⟨e2, h3, h4⟩ := forL_go st xs (done ++ [x]) e1 (by rw [e, List.append_assoc]; rfl) h2
    refine ⟨e2, ?_, h4⟩
    rw [List.map_cons, forL, h1]
    exact h3
theorem forL_all {α : Type} {f : D → Env → Fl} {enc : α → D} (I : List α → Env → Prop) (xs : List α) (env : Env) (h : I [] env) (st : ∀ (done : List α) (x : α) (rest : List α) (env : Env), xs = done ++ x :: rest → I done env → ∃ env', f (enc x) env = .nx env' ∧ I (done ++ [x]) env') :
    ∃ env', forL f (xs.map enc) env = .nx env' ∧ I xs env' := forL_go st xs [] env rfl h
theorem forL_any {α : Type} {f : D → Env → Fl} {enc : α → D} {I : Env → Prop} {p : α → Bool} {r : D} : ∀ (xs : List α) (env : Env), I env → (∀ (x : α) (env : Env), x ∈ xs → I env → if p x then f (enc x) env = .rt r else ∃ env', f (enc x) env = .nx env' ∧ I env') →
    if xs.any p then forL f (xs.map enc) env = .rt r else ∃ env', forL f (xs.map enc) env = .nx env' ∧ I env'
  | [], env, h, _ => ⟨env, rfl, h⟩
  | x :: xs, env, h, st => by
    have s1 := st x env List.mem_cons_self h
    rw [List.any_cons]
    cases hp : p x with
    | true =>
      rw [hp] at s1
      simp only [if_true] at s1
      rw [Bool.true_or, if_pos rfl, List.map_cons, forL, s1]
    | false =>
      rw [hp] at s1
      simp only [Bool.false_eq_true, if_false] at s1
      obtain ⟨e1, h1, h2⟩ := s1
      have := forL_any xs e1 h2 fun y e hy hi => st y e (List.mem_cons_of_mem _ hy) hi
      rw [Bool.false_or, List.map_cons, forL, h1]
      exact this
theorem mapO_all {α : Type} {f : D → Option (Option D)} {enc : α → D} {g : α → D} : ∀ (xs : List α), (∀ x ∈ xs, f (enc x) = some (some (g x))) → mapO f (xs.map enc) = some (xs.map g)
  | [], _ => rfl
  | x :: xs, h => by
    rw [List.map_cons, mapO, h x List.mem_cons_self]
    show (mapO f (xs.map enc)).map (g x :: ·) = _
    rw [mapO_all xs fun y hy => h y (List.mem_cons_of_mem _ hy)]
    rfl
/-! ### the script's cells -/
def digA : IS := (.seq (.app 4 (.bin .mod (.blt .int (.cons (.vr 3) .nil)) (.vr 1))) (.seq (.set 3 .fz (.bin .fdiv (.vr 3) (.vr 1))) .skip))
def digB : IS := (.seq (.set 3 .fz (.bin .mod (.blt .int (.cons (.bin .add (.bin .add (.bin .mul (.vr 3) (.ct (.int 48271))) (.bin .mul (.vr 5) (.ct (.int 69621)))) (.ct (.int 17))) .nil)) (.ct (.int 2147483647)))) (.seq (.set 3 .fz (.bin .mod (.blt .int (.cons (.bin .add (.bin .add (.bin .mul (.vr 3) (.ct (.int 16807))) (.bin .mul (.ct (.int 2)) (.vr 5))) (.ct (.int 5))) .nil)) (.ct (.int 2147483629)))) (.seq (.app 4 (.bin .mod (.blt .int (.cons (.bin .fdiv (.vr 3) (.ct (.int 64))) .nil)) (.vr 1))) .skip)))
def digitsFD : FD := ⟨3, 6, (.ol .fz), (.seq (.set 3 .fz (.blt .abs (.cons (.blt .int (.cons (.vr 0) .nil)) .nil))) (.seq (.set 4 (.ol .fz) (.ls .nil)) (.seq (.ite (.cmp .ge (.vr 3) (.bin .pow (.ct (.int 10)) (.ct (.int 18)))) (.seq (.for (.nm 5) (.it .rng (.cons (.vr 2) .nil)) digA) (.seq (.ret (.vr 4)) .skip)) .skip) (.seq (.for (.nm 5) (.it .rng (.cons (.vr 2) .nil)) digB) (.seq (.ret (.vr 4)) .skip)))))⟩
def lowC : IE := .cmp .gt (.vr 3) (.ct (.int 0))
def lowB : IS := (.seq (.set 4 .fz (.bin .sub (.vr 2) (.bin .mul (.bin .fdiv (.vr 2) (.vr 3)) (.vr 3)))) (.seq (.set 2 .fz (.vr 3)) (.seq (.set 3 .fz (.vr 4)) .skip)))
def lowestFD : FD := ⟨2, 5, .fz, (.seq (.set 2 .fz (.blt .abs (.cons (.vr 0) .nil))) (.seq (.set 3 .fz (.vr 1)) (.seq (.whl lowC lowB) (.seq (.ret (.tp (.cons (.bin .fdiv (.vr 0) (.vr 2)) (.cons (.bin .fdiv (.vr 1) (.vr 2)) .nil)))) .skip))))⟩
def cellFD : FD := ⟨2, 2, .fz, (.seq (.ite (.cmp .lt (.vr 1) (.blt .len (.cons (.vr 0) .nil))) (.seq (.ret (.ix (.vr 0) (.vr 1))) .skip) .skip) (.seq (.ret (.ct (.int 0))) .skip))⟩
section
variable {P : List FD}
theorem cell_ok {j : Nat} (hP : P[j]? = some cellFD) (ns : List Int) (k : Nat) : sem P j [.scr ns, .int (k : Int)] = .ok (.int (ns.getD k 0)) := by
  rw [sem_eq P hP]
  by_cases h : k < ns.length
  · have e : atD (ns.map .int) (k : Int) = .ok (.int ns[k]) := by
      unfold atD ixn L2.ixN
      rw [if_pos (by omega), List.length_map, if_pos (by omega)]
      simp [h]
    simp [runF, cellFD, exec, ev, bltD, cmpD, cmpI, h, ixD, e, Fl.out]
  · simp [runF, cellFD, exec, ev, bltD, cmpD, cmpI, h, Fl.out]
theorem emod_bd (r b : Int) (h : 0 < b) : 0 ≤ r.fmod b ∧ r.fmod b < b := ⟨Int.fmod_nonneg_of_pos _ h, Int.fmod_lt_of_pos _ h⟩
theorem digits_ok {j : Nat} (hP : P[j]? = some digitsFD) (c : Int) {b : Int} {n : Nat} (hb : 0 < b) (hb2 : b ≤ 1000000) (hn : n ≤ 1000) :
    ∃ L : List Int, sem P j [.int c, .int b, .int (n : Int)] = .ok (.lst (L.map .int)) ∧ L.length = n ∧ ∀ x ∈ L, 0 ≤ x ∧ x < b := by
  have hd : divOk b = true := divOk_of (k := 30) (by omega) (by omega) (by decide)
  have hb0 : ¬ b = 0 := by omega
  have hp : (10 : Int) ^ (18 : Int).toNat = 1000000000000000000 := by decide
  have hr : rngOk (n : Int) = true := by unfold rngOk; simp; omega
  have e64 : divOk 64 = true := by decide
  have hpk : powOk 10 18 = true := by decide
  -- the first way
  have goA : ∀ (S : Sem1) (r0 : Int) (o0 : Option D), ∃ (L : List Int) (r1 : Int) (o1 : Option D), forL (fun d e => optF (bindT (.nm 5) d e) fun e' => exec S e' digA) ((List.range n).map fun k : Nat => D.int k) [some (.int c), some (.int b), some (.int (n : Int)), some (.int r0), some (.lst []), o0] =
      .nx [some (.int c), some (.int b), some (.int (n : Int)), some (.int r1), some (.lst (L.map .int)), o1] ∧ L.length = n ∧ ∀ x ∈ L, 0 ≤ x ∧ x < b := fun S r0 o0 => by
    obtain ⟨e1, h1, r1, L, o1, h2, h3, h4⟩ := forL_all (f := fun d e => optF (bindT (.nm 5) d e) fun e' => exec S e' digA) (enc := fun k : Nat => D.int k)
      (fun done env => ∃ (r : Int) (L : List Int) (o : Option D), env = [some (.int c), some (.int b), some (.int (n : Int)), some (.int r), some (.lst (L.map .int)), o] ∧ L.length = done.length ∧ ∀ x ∈ L, 0 ≤ x ∧ x < b)
      (List.range n) _ ⟨r0, [], o0, rfl, rfl, by simp⟩ (by
        rintro done k rest env e ⟨r, L, o, rfl, hl, hx⟩
        have hlen : L.length < lim := by
          have := congrArg List.length e
          simp at this
          unfold lim; omega
        refine ⟨_, ?_, r.fdiv b, L ++ [r.fmod b], some (.int (k : Int)), rfl, by simp [hl], fun x hx' => ?_⟩
        · simp [bindT, optF, digA, exec, ev, bltD, binD, hb0, hd, hlen]
        · rcases List.mem_append.mp hx' with h | h
          · exact hx x h
          · rw [List.mem_singleton] at h
            rw [h]
            exact emod_bd r b hb)
    exact ⟨L, r1, o1, by rw [← h2]; exact h1, by rw [h3]; simp, h4⟩
  have goB : ∀ (S : Sem1) (r0 : Int) (o0 : Option D), 0 ≤ r0 → r0 < 1000000000000000000 → ∃ (L : List Int) (r1 : Int) (o1 : Option D), forL (fun d e => optF (bindT (.nm 5) d e) fun e' => exec S e' digB) ((List.range n).map fun k : Nat => D.int k) [some (.int c), some (.int b), some (.int (n : Int)), some (.int r0), some (.lst []), o0] =
      .nx [some (.int c), some (.int b), some (.int (n : Int)), some (.int r1), some (.lst (L.map .int)), o1] ∧ L.length = n ∧ ∀ x ∈ L, 0 ≤ x ∧ x < b := fun S r0 o0 hr0 hr1 => by
    obtain ⟨e1, h1, r1, L, o1, h2, h3, h4, h5⟩ := forL_all (f := fun d e => optF (bindT (.nm 5) d e) fun e' => exec S e' digB) (enc := fun k : Nat => D.int k)
      (fun done env => ∃ (r : Int) (L : List Int) (o : Option D), env = [some (.int c), some (.int b), some (.int (n : Int)), some (.int r), some (.lst (L.map .int)), o] ∧ L.length = done.length ∧ (∀ x ∈ L, 0 ≤ x ∧ x < b) ∧ 0 ≤ r ∧ r < 1000000000000000000)
      (List.range n) _ ⟨r0, [], o0, rfl, rfl, by simp, hr0, hr1⟩ (by
        rintro done k rest env e ⟨r, L, o, rfl, hl, hx, g0, g1⟩
        have hlen : L.length < lim := by
          have := congrArg List.length e
          simp at this
          unfold lim; omega
        have hk : k < 1000 := by
          have : k ∈ List.range n := by rw [e]; simp
          have := List.mem_range.mp this
          omega
        have m1 : mulOk r 48271 = true := mulOk_of (k := 60) (l := 20) (by omega) (by decide) (by decide)
        have m2 : mulOk (k : Int) 69621 = true := mulOk_of (k := 60) (l := 20) (by omega) (by decide) (by decide)
        obtain ⟨a1, a2⟩ := emod_bd (r * 48271 + (k : Int) * 69621 + 17) 2147483647 (by decide)
        have m3 : mulOk ((r * 48271 + (k : Int) * 69621 + 17).fmod 2147483647) 16807 = true := mulOk_of (k := 60) (l := 20) (by omega) (by decide) (by decide)
        have m4 : mulOk 2 (k : Int) = true := mulOk_of (k := 60) (l := 20) (by decide) (by omega) (by decide)
        obtain ⟨a3, a4⟩ := emod_bd ((r * 48271 + (k : Int) * 69621 + 17).fmod 2147483647 * 16807 + 2 * (k : Int) + 5) 2147483629 (by decide)
        refine ⟨_, ?_, _, L ++ [(((r * 48271 + (k : Int) * 69621 + 17).fmod 2147483647 * 16807 + 2 * (k : Int) + 5).fmod 2147483629).fdiv 64 |>.fmod b], some (.int (k : Int)), rfl, by simp [hl], fun x hx' => ?_, a3, by omega⟩
        · simp [bindT, optF, digB, exec, ev, bltD, binD, hb0, e64, hlen, m1, m2, m3, m4]
        · rcases List.mem_append.mp hx' with h | h
          · exact hx x h
          · rw [List.mem_singleton] at h
            rw [h]
            exact emod_bd _ b hb)
    exact ⟨L, r1, o1, by rw [← h2]; exact h1, by rw [h3]; simp, h4⟩
  rw [sem_eq P hP]
  generalize (fun i => if i < j then sem P i else fun _ => R.bad) = S
  by_cases hbig : (1000000000000000000 : Int) ≤ (if c < 0 then -c else c)
  · obtain ⟨L, r1, o1, h1, h2, h3⟩ := goA S (if c < 0 then -c else c) none
    refine ⟨L, ?_, h2, h3⟩
    simp [runF, digitsFD, exec, ev, bltD, binD, cmpD, cmpI, hpk, hbig, itD, hr, mkL, lim, h1, Fl.out]
  · obtain ⟨L, r1, o1, h1, h2, h3⟩ := goB S (if c < 0 then -c else c) none (by split <;> omega) (by omega)
    refine ⟨L, ?_, h2, h3⟩
    simp [runF, digitsFD, exec, ev, bltD, binD, cmpD, cmpI, hpk, hbig, itD, hr, mkL, lim, h1, Fl.out]
theorem low_loop (S : Sem1) (n d : Int) {k : Nat} (hk : k < 9000) : ∀ (b a : Nat) (o : Option D), a < 2 ^ k → b < 2 ^ k → ∃ o', whL (fun e => ev S e lowC) (fun e => exec S e lowB) [some (.int n), some (.int d), some (.int (a : Int)), some (.int (b : Int)), o] =
    .nx [some (.int n), some (.int d), some (.int (Nat.gcd a b : Nat)), some (.int 0), o'] := by
  intro b
  induction b using Nat.strongRecOn with
  | ind b ih =>
    intro a o ha hb
    rw [whL_eq]
    by_cases h0 : b = 0
    · subst h0
      refine ⟨o, ?_⟩
      simp [lowC, ev, cmpD, cmpI]
    · have hb0 : ¬ (b : Int) = 0 := by omega
      have hp : (0 : Int) < (b : Int) := by omega
      have hdo : divOk (b : Int) = true := divOk_of (k := k) (by simpa using hb) hb0 hk
      have e1 : ((a : Int)).fdiv (b : Int) = ((a / b : Nat) : Int) := by rw [Int.fdiv_eq_ediv_of_nonneg _ (by omega)]; exact (Int.natCast_ediv a b).symm
      have hmo : mulOk ((a / b : Nat) : Int) (b : Int) = true := mulOk_of (k := k) (l := k) (Nat.lt_of_le_of_lt (Nat.div_le_self a b) ha) (by simpa using hb) (by omega)
      have e2 : (a : Int) - ((a / b : Nat) : Int) * (b : Int) = ((a % b : Nat) : Int) := by
        have := Nat.div_add_mod a b
        have h3 : ((b * (a / b) + a % b : Nat) : Int) = (a : Int) := by rw [this]
        rw [Int.natCast_add, Int.natCast_mul] at h3
        rw [Int.mul_comm]
        omega
      have lt : a % b < b := Nat.mod_lt _ (by omega)
      obtain ⟨o', h⟩ := ih (a % b) lt b (some (.int ((a % b : Nat) : Int))) hb (by omega)
      refine ⟨o', ?_⟩
      have hg : Nat.gcd b (a % b) = Nat.gcd a b := by rw [Nat.gcd_comm a b, Nat.gcd_rec b a, Nat.gcd_comm]
      rw [hg] at h
      have ec : ev S [some (.int n), some (.int d), some (.int (a : Int)), some (.int (b : Int)), o] lowC = .ok (.bl true) := by
        simp [lowC, ev, cmpD, cmpI]
        omega
      have eb : exec S [some (.int n), some (.int d), some (.int (a : Int)), some (.int (b : Int)), o] lowB = .nx [some (.int n), some (.int d), some (.int (b : Int)), some (.int ((a % b : Nat) : Int)), some (.int ((a % b : Nat) : Int))] := by
        simp [lowB, exec, ev, binD, hdo, e1, hmo, e2, -Int.natCast_ediv, -Int.natCast_emod]
      rw [ec, R.fl_ok]
      dsimp only
      rw [eb]
      exact h
theorem low_ok {j : Nat} (hP : P[j]? = some lowestFD) : MkQ P j := fun n d k hd hn hdk hk => by
  rw [sem_eq P hP]
  generalize (fun i => if i < j then sem P i else fun _ => R.bad) = S
  obtain ⟨o', h⟩ := low_loop S n d hk d.natAbs n.natAbs none hn hdk
  have ea : (if n < 0 then -n else n) = (n.natAbs : Int) := by split <;> omega
  have ed : ((d.natAbs : Nat) : Int) = d := by omega
  rw [ed] at h
  have g1 := gcd_sz (n := n) (d := d) (by omega) hdk
  have g0 := gcd_pos (n := n) (d := d) (by omega)
  have hdo : divOk ((Nat.gcd n.natAbs d.natAbs : Nat) : Int) = true := divOk_of (k := k) g1 (by have : 0 < Nat.gcd n.natAbs d.natAbs := g0; omega) hk
  have hs : ¬ d < 0 := by omega
  rw [fr_divInt (by omega), if_neg hs]
  have hi : Int.gcd n d = Nat.gcd n.natAbs d.natAbs := rfl
  rw [hi]
  simp [runF, lowestFD, exec, bltD, ev, ea, h, binD, hdo, mkT, lim, Fl.out]
end
end Pv

/-! Pv, part V: rows of fractions: sums, products, what lines ask. -/
namespace Pv
open PySem PySem.Spec PyProof.Rows L2
/-! ### defs of the texts, the called defs' numbers left open -/
def lawScalar_b0 (jlawPlus jlawTimes : Nat) : IS := (.seq (.set 2 .fz (.call jlawPlus (.cons (.vr 2) (.cons (.call jlawTimes (.cons (.ix (.vr 0) (.vr 3)) (.cons (.ix (.vr 1) (.vr 3)) .nil))) .nil)))) .skip)
def lawScalarFD (jlawPlus jlawTimes : Nat) : FD := ⟨2, 4, .fz, (.seq (.set 2 .fz (.tp (.cons (.ct (.int 0)) (.cons (.ct (.int 1)) .nil)))) (.seq (.for (.nm 3) (.it .rng (.cons (.blt .len (.cons (.vr 0) .nil)) .nil)) (lawScalar_b0 jlawPlus jlawTimes)) (.seq (.ret (.vr 2)) .skip)))⟩
def lawSummed_e0 (jlawPlus jlawTimes : Nat) : IE := (.tp (.cons (.ct (.int 0)) (.cons (.ct (.int 1)) .nil)))
def lawSummed_e1 (jlawPlus jlawTimes : Nat) : IE := (.call jlawPlus (.cons (.ix (.vr 3) (.vr 6)) (.cons (.call jlawTimes (.cons (.ix (.vr 2) (.vr 5)) (.cons (.ix (.ix (.ix (.vr 1) (.vr 5)) (.ct (.int 0))) (.vr 6)) .nil))) .nil)))
def lawSummed_b0 (jlawPlus jlawTimes : Nat) : IS := (.seq (.set 3 (.ol .fz) (.lc (lawSummed_e1 jlawPlus jlawTimes) (.nm 6) (.it .rng (.cons (.vr 0) .nil)) .nil)) (.seq (.set 4 .fz (.call jlawPlus (.cons (.vr 4) (.cons (.call jlawTimes (.cons (.ix (.vr 2) (.vr 5)) (.cons (.ix (.ix (.vr 1) (.vr 5)) (.ct (.int 1))) .nil))) .nil)))) .skip))
def lawSummedFD (jlawPlus jlawTimes : Nat) : FD := ⟨3, 7, (.ot [(.ol .fz), .fz]), (.seq (.set 3 (.ol .fz) (.lc (lawSummed_e0 jlawPlus jlawTimes) (.nm 5) (.it .rng (.cons (.vr 0) .nil)) .nil)) (.seq (.set 4 .fz (.tp (.cons (.ct (.int 0)) (.cons (.ct (.int 1)) .nil)))) (.seq (.for (.nm 5) (.it .rng (.cons (.blt .len (.cons (.vr 1) .nil)) .nil)) (lawSummed_b0 jlawPlus jlawTimes)) (.seq (.ret (.tp (.cons (.vr 3) (.cons (.vr 4) .nil)))) .skip))))⟩
def lawNoLess_b0 : IS := (.seq (.ite (.cmp .lt (.ix (.vr 1) (.ct (.int 0))) (.ct (.int 0))) (.seq (.ret (.ct (.bl false))) .skip) .skip) .skip)
def lawNoLessFD : FD := ⟨1, 2, .fz, (.seq (.for (.nm 1) (.it .val (.cons (.vr 0) .nil)) lawNoLess_b0) (.seq (.ret (.ct (.bl true))) .skip))⟩
def lawMeets_b0 (jlawLess jlawScalar jlawNoLess : Nat) : IS := (.seq (.ite (.call jlawLess (.cons (.ix (.vr 2) (.ct (.int 1))) (.cons (.call jlawScalar (.cons (.ix (.vr 2) (.ct (.int 0))) (.cons (.vr 1) .nil))) .nil))) (.seq (.ret (.ct (.bl false))) .skip) .skip) .skip)
def lawMeetsFD (jlawLess jlawScalar jlawNoLess : Nat) : FD := ⟨2, 3, .fz, (.seq (.ite (.not (.call jlawNoLess (.cons (.vr 1) .nil))) (.seq (.ret (.ct (.bl false))) .skip) .skip) (.seq (.for (.nm 2) (.it .val (.cons (.vr 0) .nil)) (lawMeets_b0 jlawLess jlawScalar jlawNoLess)) (.seq (.ret (.ct (.bl true))) .skip)))⟩
def lawBoundsGoal_b0 (jlawLess jlawNoLess jlawSummed : Nat) : IS := (.seq (.ite (.call jlawLess (.cons (.ix (.ix (.vr 4) (.ct (.int 0))) (.vr 5)) (.cons (.ix (.vr 0) (.vr 5)) .nil))) (.seq (.ret (.ct (.bl false))) .skip) .skip) .skip)
def lawBoundsGoalFD (jlawLess jlawNoLess jlawSummed : Nat) : FD := ⟨4, 6, .fz, (.seq (.ite (.not (.call jlawNoLess (.cons (.vr 2) .nil))) (.seq (.ret (.ct (.bl false))) .skip) .skip) (.seq (.set 4 .fz (.call jlawSummed (.cons (.blt .len (.cons (.vr 0) .nil)) (.cons (.vr 1) (.cons (.vr 2) .nil))))) (.seq (.for (.nm 5) (.it .rng (.cons (.blt .len (.cons (.vr 0) .nil)) .nil)) (lawBoundsGoal_b0 jlawLess jlawNoLess jlawSummed)) (.seq (.ret (.not (.call jlawLess (.cons (.vr 3) (.cons (.ix (.vr 4) (.ct (.int 1))) .nil))))) .skip))))⟩
def lawIsTruthFD : FD := ⟨2, 2, .fz, (.seq (.ret (.and (.blt .isBool (.cons (.vr 0) .nil)) (.cmp .eq (.vr 0) (.vr 1)))) .skip)⟩
def noneBelow_b0 (jbelow : Nat) : IS := (.seq (.ite (.call jbelow (.cons (.vr 1) (.cons (.gl "ZERO" (.tup [(.int 0), (.int 1)])) .nil))) (.seq (.ret (.ct (.bl false))) .skip) .skip) .skip)
def noneBelowFD (jbelow : Nat) : FD := ⟨1, 2, .fz, (.seq (.for (.nm 1) (.it .val (.cons (.vr 0) .nil)) (noneBelow_b0 jbelow)) (.seq (.ret (.ct (.bl true))) .skip))⟩
def total_b0 (jplus : Nat) : IS := (.seq (.set 1 .fz (.call jplus (.cons (.vr 1) (.cons (.vr 2) .nil)))) .skip)
def totalFD (jplus : Nat) : FD := ⟨1, 3, .fz, (.seq (.set 1 .fz (.gl "ZERO" (.tup [(.int 0), (.int 1)]))) (.seq (.for (.nm 2) (.it .val (.cons (.vr 0) .nil)) (total_b0 jplus)) (.seq (.ret (.vr 1)) .skip)))⟩
def scalar_e0 (jtimes jtotal : Nat) : IE := (.call jtimes (.cons (.vr 2) (.cons (.vr 3) .nil)))
def scalarFD (jtimes jtotal : Nat) : FD := ⟨2, 4, .fz, (.seq (.ret (.call jtotal (.cons (.lc (scalar_e0 jtimes jtotal) (.tp (.cons (.nm 2) (.cons (.nm 3) .nil))) (.it .zip (.cons (.vr 0) (.cons (.vr 1) .nil))) .nil) .nil))) .skip)⟩
def meets_b0 (jbelow jscalar jnoneBelow : Nat) : IS := (.seq (.ite (.or (.cmp .ne (.blt .len (.cons (.vr 2) .nil)) (.blt .len (.cons (.vr 1) .nil))) (.call jbelow (.cons (.vr 3) (.cons (.call jscalar (.cons (.vr 2) (.cons (.vr 1) .nil))) .nil)))) (.seq (.ret (.ct (.bl false))) .skip) .skip) .skip)
def meetsFD (jbelow jscalar jnoneBelow : Nat) : FD := ⟨2, 4, .fz, (.seq (.ite (.not (.call jnoneBelow (.cons (.vr 1) .nil))) (.seq (.ret (.ct (.bl false))) .skip) .skip) (.seq (.for (.tp (.cons (.nm 2) (.cons (.nm 3) .nil))) (.it .val (.cons (.vr 0) .nil)) (meets_b0 jbelow jscalar jnoneBelow)) (.seq (.ret (.ct (.bl true))) .skip)))⟩
def combined_e0 (jplus jtimes : Nat) : IE := (.gl "ZERO" (.tup [(.int 0), (.int 1)]))
def combined_e1 (jplus jtimes : Nat) : IE := (.call jplus (.cons (.vr 9) (.cons (.call jtimes (.cons (.vr 7) (.cons (.vr 10) .nil))) .nil)))
def combined_b0 (jplus jtimes : Nat) : IS := (.seq (.set 3 .fz (.lc (combined_e1 jplus jtimes) (.tp (.cons (.nm 9) (.cons (.nm 10) .nil))) (.it .zip (.cons (.vr 3) (.cons (.vr 5) .nil))) .nil)) (.seq (.set 4 .fz (.call jplus (.cons (.vr 4) (.cons (.call jtimes (.cons (.vr 7) (.cons (.vr 6) .nil))) .nil)))) .skip))
def combinedFD (jplus jtimes : Nat) : FD := ⟨3, 11, .fz, (.seq (.set 3 .fz (.lc (combined_e0 jplus jtimes) (.nm 8) (.it .rng (.cons (.vr 0) .nil)) .nil)) (.seq (.set 4 .fz (.gl "ZERO" (.tup [(.int 0), (.int 1)]))) (.seq (.for (.tp (.cons (.tp (.cons (.nm 5) (.cons (.nm 6) .nil))) (.cons (.nm 7) .nil))) (.it .zip (.cons (.vr 1) (.cons (.vr 2) .nil))) (combined_b0 jplus jtimes)) (.seq (.ret (.tp (.cons (.blt .tuple (.cons (.vr 3) .nil)) (.cons (.vr 4) .nil)))) .skip))))⟩
def showsBound_b0 (jbelow jnoneBelow jcombined jatMost : Nat) : IS := (.seq (.ite (.cmp .ne (.blt .len (.cons (.ix (.vr 4) (.ct (.int 0))) .nil)) (.blt .len (.cons (.vr 0) .nil))) (.seq (.ret (.ct (.bl false))) .skip) .skip) .skip)
def showsBound_b1 (jbelow jnoneBelow jcombined jatMost : Nat) : IS := (.seq (.ite (.call jbelow (.cons (.vr 8) (.cons (.vr 7) .nil))) (.seq (.ret (.ct (.bl false))) .skip) .skip) .skip)
def showsBoundFD (jbelow jnoneBelow jcombined jatMost : Nat) : FD := ⟨4, 9, .fz, (.seq (.ite (.or (.cmp .ne (.blt .len (.cons (.vr 2) .nil)) (.blt .len (.cons (.vr 1) .nil))) (.not (.call jnoneBelow (.cons (.vr 2) .nil)))) (.seq (.ret (.ct (.bl false))) .skip) .skip) (.seq (.for (.nm 4) (.it .val (.cons (.vr 1) .nil)) (showsBound_b0 jbelow jnoneBelow jcombined jatMost)) (.seq (.asg (.tp (.cons (.nm 5) (.cons (.nm 6) .nil))) (.call jcombined (.cons (.blt .len (.cons (.vr 0) .nil)) (.cons (.vr 1) (.cons (.vr 2) .nil))))) (.seq (.for (.tp (.cons (.nm 7) (.cons (.nm 8) .nil))) (.it .zip (.cons (.vr 0) (.cons (.vr 5) .nil))) (showsBound_b1 jbelow jnoneBelow jcombined jatMost)) (.seq (.ret (.call jatMost (.cons (.vr 6) (.cons (.vr 3) .nil)))) .skip)))))⟩
def showsMostFD (jmeets jshowsBound jscalar : Nat) : FD := ⟨4, 4, .fz, (.seq (.ite (.or (.cmp .ne (.blt .len (.cons (.vr 2) .nil)) (.blt .len (.cons (.vr 0) .nil))) (.not (.call jmeets (.cons (.vr 1) (.cons (.vr 2) .nil))))) (.seq (.ret (.ct (.bl false))) .skip) .skip) (.seq (.ret (.call jshowsBound (.cons (.vr 0) (.cons (.vr 1) (.cons (.vr 3) (.cons (.call jscalar (.cons (.vr 0) (.cons (.vr 2) .nil))) .nil)))))) .skip))⟩
def showsBar_b0 (jnoneBelow jcombined jbelow : Nat) : IS := (.seq (.ite (.cmp .ne (.blt .len (.cons (.ix (.vr 2) (.ct (.int 0))) .nil)) (.blt .len (.cons (.ix (.ix (.vr 0) (.ct (.int 0))) (.ct (.int 0))) .nil))) (.seq (.ret (.ct (.bl false))) .skip) .skip) .skip)
def showsBarFD (jnoneBelow jcombined jbelow : Nat) : FD := ⟨2, 5, .fz, (.seq (.ite (.or (.cmp .ne (.blt .len (.cons (.vr 1) .nil)) (.blt .len (.cons (.vr 0) .nil))) (.not (.call jnoneBelow (.cons (.vr 1) .nil)))) (.seq (.ret (.ct (.bl false))) .skip) .skip) (.seq (.for (.nm 2) (.it .val (.cons (.vr 0) .nil)) (showsBar_b0 jnoneBelow jcombined jbelow)) (.seq (.ite (.cmp .eq (.blt .len (.cons (.vr 0) .nil)) (.ct (.int 0))) (.seq (.ret (.ct (.bl false))) .skip) .skip) (.seq (.asg (.tp (.cons (.nm 3) (.cons (.nm 4) .nil))) (.call jcombined (.cons (.blt .len (.cons (.ix (.ix (.vr 0) (.ct (.int 0))) (.ct (.int 0))) .nil)) (.cons (.vr 0) (.cons (.vr 1) .nil))))) (.seq (.ret (.and (.call jnoneBelow (.cons (.vr 3) .nil)) (.call jbelow (.cons (.vr 4) (.cons (.gl "ZERO" (.tup [(.int 0), (.int 1)])) .nil))))) .skip)))))⟩
def lawBarsFD (jlawNoLess jlawSummed : Nat) : FD := ⟨3, 4, .fz, (.seq (.ite (.or (.cmp .eq (.vr 1) (.ls .nil)) (.not (.call jlawNoLess (.cons (.vr 2) .nil)))) (.seq (.ret (.ct (.bl false))) .skip) .skip) (.seq (.set 3 .fz (.call jlawSummed (.cons (.vr 0) (.cons (.vr 1) (.cons (.vr 2) .nil))))) (.seq (.ret (.and (.call jlawNoLess (.cons (.ix (.vr 3) (.ct (.int 0))) .nil)) (.cmp .lt (.ix (.ix (.vr 3) (.ct (.int 1))) (.ct (.int 0))) (.ct (.int 0))))) .skip)))⟩
def lawGrows_b0 (jlawScalar jlawNoLess : Nat) : IS := (.seq (.ite (.cmp .gt (.ix (.call jlawScalar (.cons (.ix (.vr 3) (.ct (.int 0))) (.cons (.vr 2) .nil))) (.ct (.int 0))) (.ct (.int 0))) (.seq (.ret (.ct (.bl false))) .skip) .skip) .skip)
def lawGrowsFD (jlawScalar jlawNoLess : Nat) : FD := ⟨3, 4, .fz, (.seq (.ite (.not (.call jlawNoLess (.cons (.vr 2) .nil))) (.seq (.ret (.ct (.bl false))) .skip) .skip) (.seq (.for (.nm 3) (.it .val (.cons (.vr 1) .nil)) (lawGrows_b0 jlawScalar jlawNoLess)) (.seq (.ret (.cmp .gt (.ix (.call jlawScalar (.cons (.vr 0) (.cons (.vr 2) .nil))) (.ct (.int 0))) (.ct (.int 0)))) .skip)))⟩
def showsEndless_b0 (jbelow jscalar jmeets jnoneBelow : Nat) : IS := (.seq (.ite (.call jbelow (.cons (.gl "ZERO" (.tup [(.int 0), (.int 1)])) (.cons (.call jscalar (.cons (.vr 4) (.cons (.vr 3) .nil))) .nil))) (.seq (.ret (.ct (.bl false))) .skip) .skip) .skip)
def showsEndlessFD (jbelow jscalar jmeets jnoneBelow : Nat) : FD := ⟨4, 6, .fz, (.seq (.ite (.or (.cmp .ne (.blt .len (.cons (.vr 2) .nil)) (.blt .len (.cons (.vr 0) .nil))) (.or (.cmp .ne (.blt .len (.cons (.vr 3) .nil)) (.blt .len (.cons (.vr 0) .nil))) (.not (.call jmeets (.cons (.vr 1) (.cons (.vr 2) .nil)))))) (.seq (.ret (.ct (.bl false))) .skip) .skip) (.seq (.ite (.not (.call jnoneBelow (.cons (.vr 3) .nil))) (.seq (.ret (.ct (.bl false))) .skip) .skip) (.seq (.for (.tp (.cons (.nm 4) (.cons (.nm 5) .nil))) (.it .val (.cons (.vr 1) .nil)) (showsEndless_b0 jbelow jscalar jmeets jnoneBelow)) (.seq (.ret (.call jbelow (.cons (.gl "ZERO" (.tup [(.int 0), (.int 1)])) (.cons (.call jscalar (.cons (.vr 0) (.cons (.vr 3) .nil))) .nil)))) .skip))))⟩
def lawAllFalse_b0 (jlawIsTruth : Nat) : IS := (.seq (.ite (.not (.call jlawIsTruth (.cons (.vr 1) (.cons (.ct (.bl false)) .nil)))) (.seq (.ret (.ct (.bl false))) .skip) .skip) .skip)
def lawAllFalseFD (jlawIsTruth : Nat) : FD := ⟨1, 2, .fz, (.seq (.for (.nm 1) (.it .val (.cons (.vr 0) .nil)) (lawAllFalse_b0 jlawIsTruth)) (.seq (.ret (.ct (.bl true))) .skip))⟩
def lawBentFD (jlawPlus : Nat) : FD := ⟨3, 4, (.ol .fz), (.seq (.set 3 (.ol .fz) (.blt .list (.cons (.vr 0) .nil))) (.seq (.sub 3 (.vr 1) (.call jlawPlus (.cons (.ix (.vr 3) (.vr 1)) (.cons (.vr 2) .nil)))) (.seq (.ret (.vr 3)) .skip)))⟩
/-! ### sequences -/
def sq (t : Bool) (ds : List D) : D := if t then .tup ds else .lst ds
@[simp] theorem sq_t (ds : List D) : sq true ds = .tup ds := rfl
@[simp] theorem sq_f (ds : List D) : sq false ds = .lst ds := rfl
theorem len_sq (t : Bool) (ds : List D) : bltD .len [sq t ds] = .ok (.int ds.length) := by cases t <;> rfl
theorem ix_sq (t : Bool) (ds : List D) (i : Int) : ixD (sq t ds) (.int i) = atD ds i := by cases t <;> rfl
theorem val_sq (t : Bool) (ds : List D) : itD .val [sq t ds] = .ok (.tup ds) := by cases t <;> rfl
theorem zip_sq (t u : Bool) (ds es : List D) : itD .zip [sq t ds, sq u es] = .ok (.tup (zipD ds es)) := by cases t <;> cases u <;> rfl
theorem list_sq (t : Bool) (ds : List D) : bltD .list [sq t ds] = .ok (.lst ds) := by cases t <;> rfl
theorem zipD_map {α β : Type} {f : α → D} {g : β → D} : ∀ (xs : List α) (ys : List β), zipD (xs.map f) (ys.map g) = (xs.zip ys).map fun p => .tup [f p.1, g p.2]
  | [], _ => rfl
  | _ :: _, [] => rfl
  | x :: xs, y :: ys => by simp [zipD, zipD_map xs ys]
theorem at_map {α : Type} {f : α → D} {xs : List α} {k : Nat} (h : k < xs.length) : atD (xs.map f) (k : Int) = .ok (f xs[k]) := by
  unfold atD ixn L2.ixN
  rw [if_pos (by omega), List.length_map, if_pos (by omega)]
  simp [h]
/-! ### what the fractions' defs do -/
def PlusOk (P : List FD) (j : Nat) : Prop := ∀ (a b : Rat) (k l : Nat), Sz a k → Sz b l → k + l + 1 < 9000 → sem P j [fr a, fr b] = .ok (fr (a + b))
def TimesOk (P : List FD) (j : Nat) : Prop := ∀ (a b : Rat) (k l : Nat), Sz a k → Sz b l → k + l < 9000 → sem P j [fr a, fr b] = .ok (fr (a * b))
def LessOk (P : List FD) (j : Nat) : Prop := ∀ (a b : Rat) (k l : Nat), Sz a k → Sz b l → k + l < 9000 → sem P j [fr a, fr b] = .ok (.bl (decide (a < b)))
def MostOk (P : List FD) (j : Nat) : Prop := ∀ (a b : Rat) (k l : Nat), Sz a k → Sz b l → k + l < 9000 → sem P j [fr a, fr b] = .ok (.bl (decide (a ≤ b)))
theorem Sz.add {a b : Rat} {k l : Nat} (ha : Sz a k) (hb : Sz b l) : Sz (a + b) (k + l + 1) := by
  have := sz_divInt (by have := den_mul_pos a b; omega) (add_sz (mul_sz ha.n hb.d') (by rw [Nat.add_comm k l]; exact mul_sz hb.n ha.d')) (pow_le (mul_sz ha.d' hb.d') (by omega : k + l ≤ k + l + 1))
  rw [divInt_add] at this
  exact this
theorem Sz.sub {a b : Rat} {k l : Nat} (ha : Sz a k) (hb : Sz b l) : Sz (a - b) (k + l + 1) := by
  have := sz_divInt (by have := den_mul_pos a b; omega) (sub_sz (mul_sz ha.n hb.d') (by rw [Nat.add_comm k l]; exact mul_sz hb.n ha.d')) (pow_le (mul_sz ha.d' hb.d') (by omega : k + l ≤ k + l + 1))
  rw [divInt_sub] at this
  exact this
theorem Sz.mul {a b : Rat} {k l : Nat} (ha : Sz a k) (hb : Sz b l) : Sz (a * b) (k + l) := by
  have := sz_divInt (by have := den_mul_pos a b; omega) (mul_sz ha.n hb.n) (mul_sz ha.d' hb.d')
  rw [divInt_mul] at this
  exact this
theorem sz0 : Sz 0 1 := ⟨by decide, by decide⟩
theorem fr0 : fr 0 = .tup [.int 0, .int 1] := rfl
theorem fr1 : fr 1 = .tup [.int 1, .int 1] := rfl
def VSz (k : Nat) (xs : List Rat) : Prop := ∀ x ∈ xs, Sz x k
/-- s + x1 y1 + x2 y2 + .. -/
def dotA : Rat → List Rat → List Rat → Rat
  | s, x :: xs, y :: ys => dotA (s + x * y) xs ys
  | s, _, _ => s
def dot (xs ys : List Rat) : Rat := dotA 0 xs ys
def totA : Rat → List Rat → Rat
  | s, x :: xs => totA (s + x) xs
  | s, [] => s
theorem totA_zip : ∀ (s : Rat) (xs ys : List Rat), totA s ((xs.zip ys).map fun p => p.1 * p.2) = dotA s xs ys
  | _, [], _ => rfl
  | _, _ :: _, [] => rfl
  | s, x :: xs, y :: ys => by
    rw [List.zip_cons_cons, List.map_cons, totA, dotA, totA_zip]
theorem totA_sz : ∀ (xs : List Rat) (s : Rat) (m k : Nat), Sz s m → VSz k xs → Sz (totA s xs) (m + xs.length * (k + 1))
  | [], s, m, k, hs, _ => by simpa [totA] using hs
  | x :: xs, s, m, k, hs, hx => by
    have := totA_sz xs (s + x) (m + k + 1) k (hs.add (hx x List.mem_cons_self)) fun y hy => hx y (List.mem_cons_of_mem _ hy)
    refine this.mono ?_
    rw [List.length_cons, Nat.add_mul]
    omega
theorem prods_sz {k l : Nat} {xs ys : List Rat} (hx : VSz k xs) (hy : VSz l ys) : VSz (k + l) ((xs.zip ys).map fun p => p.1 * p.2) := fun z hz => by
  obtain ⟨p, hp, rfl⟩ := List.mem_map.mp hz
  have := List.of_mem_zip (a := p.1) (b := p.2) hp
  exact (hx _ this.1).mul (hy _ this.2)
theorem dot_sz {k l : Nat} {xs ys : List Rat} (hx : VSz k xs) (hy : VSz l ys) : Sz (dot xs ys) (1 + xs.length * (k + l + 1)) := by
  unfold dot
  rw [← totA_zip]
  refine (totA_sz _ 0 1 (k + l) sz0 (prods_sz hx hy)).mono ?_
  rw [List.length_map, List.length_zip]
  exact Nat.add_le_add_left (Nat.mul_le_mul_right _ (Nat.min_le_left _ _)) _
theorem dotA_take : ∀ {n : Nat} {s : Rat} {xs ys : List Rat} (h1 : n < xs.length) (h2 : n < ys.length), dotA s (xs.take n) (ys.take n) + xs[n] * ys[n] = dotA s (xs.take (n + 1)) (ys.take (n + 1))
  | 0, s, x :: xs, y :: ys, _, _ => by simp [dotA]
  | n + 1, s, x :: xs, y :: ys, h1, h2 => by
    have := dotA_take (n := n) (s := s + x * y) (xs := xs) (ys := ys) (by simpa using h1) (by simpa using h2)
    simpa [dotA] using this
theorem range_at {n i : Nat} {done rest : List Nat} (e : List.range n = done ++ i :: rest) : i = done.length := by
  have h : (List.range n)[done.length]? = some i := by rw [e]; simp
  rw [List.getElem?_range] at h
  · simpa using h.symm
  · have := congrArg List.length e
    simp at this
    omega
section
variable {P : List FD} {j : Nat}
/-! ### total, scalar -/
def TotalOk (P : List FD) (j : Nat) : Prop := ∀ (t : Bool) (xs : List Rat) (k : Nat), VSz k xs → 1 + (xs.length + 1) * (k + 1) < 9000 → sem P j [sq t (xs.map fr)] = .ok (fr (totA 0 xs))
theorem total_ok {jp : Nat} (hP : P[j]? = some (totalFD jp)) (h1 : jp < j) (hp : PlusOk P jp) : TotalOk P j := fun t xs k hx hk => by
  rw [sem_eq P hP]
  generalize hS : (fun i => if i < j then sem P i else fun _ => R.bad) = S
  have hSp : S jp = sem P jp := by rw [← hS]; exact if_pos h1
  have key : ∀ (ys : List Rat) (s : Rat) (m : Nat) (o : Option D), Sz s m → VSz k ys → m + (ys.length + 1) * (k + 1) < 9000 → ∃ o', forL (fun d e => optF (bindT (.nm 2) d e) fun e' => exec S e' (total_b0 jp)) (ys.map fr) [some (sq t (xs.map fr)), some (fr s), o] =
      .nx [some (sq t (xs.map fr)), some (fr (totA s ys)), o'] := by
    intro ys
    induction ys with
    | nil => intro s m o _ _ _; exact ⟨o, rfl⟩
    | cons y ys ih =>
      intro s m o hs hy hm
      rw [List.length_cons] at hm
      have hm' : (m + k + 1) + (ys.length + 1) * (k + 1) < 9000 := by
        rw [Nat.add_mul (ys.length + 1) 1] at hm
        omega
      obtain ⟨o', h⟩ := ih (s + y) (m + k + 1) (some (fr y)) (hs.add (hy y List.mem_cons_self)) (fun z hz => hy z (List.mem_cons_of_mem _ hz)) hm'
      refine ⟨o', ?_⟩
      have c := hp s y m k hs (hy y List.mem_cons_self) (by omega)
      rw [List.map_cons, forL]
      have st : (optF (bindT (.nm 2) (fr y) [some (sq t (xs.map fr)), some (fr s), o]) fun e' => exec S e' (total_b0 jp)) = .nx [some (sq t (xs.map fr)), some (fr (s + y)), some (fr y)] := by
        simp [bindT, optF, total_b0, exec, ev, hSp, c]
      rw [st]
      exact h
  obtain ⟨o', h⟩ := key xs 0 1 none sz0 hx hk
  simp [runF, totalFD, exec, ev, val_sq]
  rw [← fr0, h]
  rfl
def ScalarOk (P : List FD) (j : Nat) : Prop := ∀ (t u : Bool) (xs ys : List Rat) (k l : Nat), VSz k xs → VSz l ys → xs.length = ys.length → xs.length ≤ 1000 → 1 + (xs.length + 1) * (k + l + 1) < 9000 → sem P j [sq t (xs.map fr), sq u (ys.map fr)] = .ok (fr (dot xs ys))
theorem scalar_ok {jt jo : Nat} (hP : P[j]? = some (scalarFD jt jo)) (h1 : jt < j) (h2 : jo < j) (ht : TimesOk P jt) (ho : TotalOk P jo) : ScalarOk P j := fun t u xs ys k l hx hy hl h1000 hk => by
  rw [sem_eq P hP]
  generalize hS : (fun i => if i < j then sem P i else fun _ => R.bad) = S
  have hSt : S jt = sem P jt := by rw [← hS]; exact if_pos h1
  have hSo : S jo = sem P jo := by rw [← hS]; exact if_pos h2
  have hlen : ((xs.zip ys).map fun p => p.1 * p.2).length = xs.length := by rw [List.length_map, List.length_zip, hl, Nat.min_self]
  have c := ho false ((xs.zip ys).map fun p => p.1 * p.2) (k + l) (prods_sz hx hy) (by rw [hlen]; exact hk)
  rw [totA_zip] at c
  have kl : k + l < 9000 := by
    have : k + l + 1 ≤ (xs.length + 1) * (k + l + 1) := Nat.le_mul_of_pos_left _ (by omega)
    omega
  have m : mapO (fun d => envO (bindT (.tp (.cons (.nm 2) (.cons (.nm 3) .nil))) d (wipeE [some (sq t (xs.map fr)), some (sq u (ys.map fr)), none, none] (Tg.tp (.cons (.nm 2) (.cons (.nm 3) .nil))).own)) fun env' => stepC (ev S env' (scalar_e0 jt jo))) (zipD (xs.map fr) (ys.map fr)) = some (((xs.zip ys).map fun p => p.1 * p.2).map fr) := by
    rw [zipD_map, List.map_map]
    refine mapO_all _ fun p hp => ?_
    have hm := List.of_mem_zip (a := p.1) (b := p.2) hp
    have c := ht p.1 p.2 k l (hx _ hm.1) (hy _ hm.2) kl
    simp [bindT, Tg.own, wipeE, envO, scalar_e0, ev, hSt, c, stepC]
  have hz : (zipD (xs.map fr) (ys.map fr)).length ≤ lim := by
    rw [zipD_map, List.length_map, List.length_zip, hl, Nat.min_self]
    unfold lim; omega
  simp [runF, scalarFD, exec, ev, zip_sq, lcD, hz]
  rw [m]
  have c' : sem P jo [.lst (((xs.zip ys).map fun p => p.1 * p.2).map fr)] = .ok (fr (dot xs ys)) := c
  simp only [hSo, consD_ok, argD_ok, c', R.fl_ok]
  rfl
theorem lawScalar_ok {jp jt : Nat} (hP : P[j]? = some (lawScalarFD jp jt)) (h1 : jp < j) (h2 : jt < j) (hp : PlusOk P jp) (ht : TimesOk P jt) : ScalarOk P j := fun t u xs ys k l hx hy hl h1000 hk => by
  rw [sem_eq P hP]
  generalize hS : (fun i => if i < j then sem P i else fun _ => R.bad) = S
  have hSp : S jp = sem P jp := by rw [← hS]; exact if_pos h1
  have hSt : S jt = sem P jt := by rw [← hS]; exact if_pos h2
  have kl : k + l < 9000 := by
    have : k + l + 1 ≤ (xs.length + 1) * (k + l + 1) := Nat.le_mul_of_pos_left _ (by omega)
    omega
  obtain ⟨e1, g1, o1, g2⟩ := forL_all (f := fun d e => optF (bindT (.nm 3) d e) fun e' => exec S e' (lawScalar_b0 jp jt)) (enc := fun k : Nat => D.int k)
    (fun done env => ∃ o, env = [some (sq t (xs.map fr)), some (sq u (ys.map fr)), some (fr (dotA 0 (xs.take done.length) (ys.take done.length))), o])
    (List.range xs.length) [some (sq t (xs.map fr)), some (sq u (ys.map fr)), some (fr 0), none] ⟨none, rfl⟩ (by
      rintro done i rest env e ⟨o, rfl⟩
      have hi : i = done.length := range_at e
      have hil : i < xs.length := by
        have : i ∈ List.range xs.length := by rw [e]; simp
        exact List.mem_range.mp this
      have hil' : i < ys.length := by omega
      have s1 : Sz (dotA 0 (xs.take i) (ys.take i)) (1 + (xs.take i).length * (k + l + 1)) := dot_sz (fun x h => hx x (List.mem_of_mem_take h)) (fun y h => hy y (List.mem_of_mem_take h))
      rw [List.length_take, Nat.min_eq_left (by omega)] at s1
      have hb : 1 + i * (k + l + 1) + (k + l) + 1 < 9000 := by
        have : (i + 2) * (k + l + 1) ≤ (xs.length + 1) * (k + l + 1) := Nat.mul_le_mul_right _ (by omega)
        rw [Nat.add_mul] at this
        omega
      have c1 := ht xs[i] ys[i] k l (hx _ (List.getElem_mem hil)) (hy _ (List.getElem_mem hil')) kl
      have c2 := hp _ _ _ _ s1 ((hx _ (List.getElem_mem hil)).mul (hy _ (List.getElem_mem hil'))) hb
      refine ⟨_, ?_, some (.int (i : Int)), rfl⟩
      rw [← hi]
      simp [bindT, optF, lawScalar_b0, exec, ev, ix_sq, at_map hil, at_map hil', hSp, hSt, c1, c2]
      rw [← hi, dotA_take (by omega) (by omega)])
  simp at g2
  rw [g2] at g1
  have hr : rngOk (xs.length : Int) = true := by unfold rngOk; simp; omega
  simp [runF, lawScalarFD, exec, ev, len_sq, itD, hr, mkT, lim]
  rw [← fr0, g1]
  have e2 : ys.take xs.length = ys := List.take_of_length_le (by omega)
  rw [e2]
  rfl
end
end Pv

/-! Pv, part W: what lines ask: no less than nothing, rows kept, rows summed. -/
namespace Pv
open PySem PySem.Spec PyProof.Rows L2
theorem num_neg {a : Rat} : a.num < 0 ↔ a < 0 := by
  rw [← Rat.not_le, ← Rat.num_nonneg]; omega
theorem num_pos {a : Rat} : 0 < a.num ↔ 0 < a := by
  rw [Rat.lt_iff]
  show 0 < a.num ↔ (0 : Int) * _ < a.num * 1
  omega
def nonneg (xs : List Rat) : Bool := xs.all fun x => decide (0 ≤ x)
theorem any_neg (xs : List Rat) : (xs.any fun x => decide (x < 0)) = !nonneg xs := by
  unfold nonneg
  induction xs with
  | nil => rfl
  | cons x xs ih =>
    rw [List.any_cons, List.all_cons, ih]
    by_cases h : x < 0
    · have : ¬ 0 ≤ x := Rat.not_le.mpr h
      simp [h, this]
    · have : 0 ≤ x := Rat.not_lt.mp h
      simp [h, this]
abbrev Row := List Rat × Rat
def rw1 (t : Bool) (r : Row) : D := .tup [sq t (r.1.map fr), fr r.2]
def RSz (k : Nat) (rs : List Row) : Prop := ∀ r ∈ rs, VSz k r.1 ∧ Sz r.2 k ∧ r.1.length ≤ 50
section
variable {P : List FD} {j : Nat}
def NonnegOk (P : List FD) (j : Nat) : Prop := ∀ (t : Bool) (xs : List Rat) (k : Nat), VSz k xs → k + 1 < 9000 → sem P j [sq t (xs.map fr)] = .ok (.bl (nonneg xs))
theorem noneBelow_ok {jb : Nat} (hP : P[j]? = some (noneBelowFD jb)) (h1 : jb < j) (hb : LessOk P jb) : NonnegOk P j := fun t xs k hx hk => by
  rw [sem_eq P hP]
  generalize hS : (fun i => if i < j then sem P i else fun _ => R.bad) = S
  have hSb : S jb = sem P jb := by rw [← hS]; exact if_pos h1
  have h := forL_any (f := fun d e => optF (bindT (.nm 1) d e) fun e' => exec S e' (noneBelow_b0 jb)) (enc := fr) (I := fun env => ∃ o, env = [some (sq t (xs.map fr)), o]) (p := fun x => decide (x < 0)) (r := .bl false)
    xs [some (sq t (xs.map fr)), none] ⟨none, rfl⟩ (by
      rintro x env hm ⟨o, rfl⟩
      have c := hb x 0 k 1 (hx x hm) sz0 hk
      rw [fr0] at c
      by_cases hn : x < 0
      · simp [hn, bindT, optF, noneBelow_b0, exec, ev, hSb, c]
      · simp [hn, bindT, optF, noneBelow_b0, exec, ev, hSb, c])
  rw [any_neg] at h
  simp [runF, noneBelowFD, exec, ev, val_sq]
  cases hn : nonneg xs with
  | true =>
    rw [hn] at h
    obtain ⟨e, h1, _⟩ := h
    rw [h1]
    rfl
  | false =>
    rw [hn] at h
    simp only [Bool.not_false, if_true] at h
    rw [h]
    rfl
theorem lawNoLess_ok (hP : P[j]? = some lawNoLessFD) : NonnegOk P j := fun t xs k hx hk => by
  rw [sem_eq P hP]
  generalize hS : (fun i => if i < j then sem P i else fun _ => R.bad) = S
  have h := forL_any (f := fun d e => optF (bindT (.nm 1) d e) fun e' => exec S e' lawNoLess_b0) (enc := fr) (I := fun env => ∃ o, env = [some (sq t (xs.map fr)), o]) (p := fun x => decide (x < 0)) (r := .bl false)
    xs [some (sq t (xs.map fr)), none] ⟨none, rfl⟩ (by
      rintro x env hm ⟨o, rfl⟩
      by_cases hn : x < 0
      · have := num_neg.mpr hn
        simp [hn, bindT, optF, lawNoLess_b0, exec, ev, fr, ixD, at0, cmpD, cmpI, this]
      · have : ¬ x.num < 0 := fun z => hn (num_neg.mp z)
        simp [hn, bindT, optF, lawNoLess_b0, exec, ev, fr, ixD, at0, cmpD, cmpI, this])
  rw [any_neg] at h
  simp [runF, lawNoLessFD, exec, ev, val_sq]
  cases hn : nonneg xs with
  | true =>
    rw [hn] at h
    obtain ⟨e, h1, _⟩ := h
    rw [h1]
    rfl
  | false =>
    rw [hn] at h
    simp only [Bool.not_false, if_true] at h
    rw [h]
    rfl
/-! ### rows kept -/
def keeps (rs : List Row) (xs : List Rat) : Bool := rs.all fun r => decide (dot r.1 xs ≤ r.2)
def fits (rs : List Row) (xs : List Rat) : Bool := rs.all fun r => r.1.length == xs.length
theorem sz_dot {k l : Nat} {xs ys : List Rat} (hx : VSz k xs) (hy : VSz l ys) (hl : xs.length ≤ 50) : Sz (dot xs ys) (1 + 50 * (k + l + 1)) := (dot_sz hx hy).mono (Nat.add_le_add_left (Nat.mul_le_mul_right _ hl) _)
def MeetsOk (P : List FD) (j : Nat) : Prop := ∀ (t u v : Bool) (rs : List Row) (xs : List Rat) (k l : Nat), RSz k rs → VSz l xs → xs.length ≤ 50 → 1 + 52 * (k + l + 1) < 9000 → sem P j [sq t (rs.map (rw1 u)), sq v (xs.map fr)] = .ok (.bl (nonneg xs && rs.all fun r => r.1.length == xs.length && decide (dot r.1 xs ≤ r.2)))
theorem any_not {α : Type} (p : α → Bool) (xs : List α) : (xs.any fun x => !p x) = !(xs.all p) := by
  induction xs with
  | nil => rfl
  | cons x xs ih => rw [List.any_cons, List.all_cons, ih, Bool.not_and]
theorem meets_ok {jb js jn : Nat} (hP : P[j]? = some (meetsFD jb js jn)) (h1 : jb < j) (h2 : js < j) (h3 : jn < j) (hb : LessOk P jb) (hs : ScalarOk P js) (hn : NonnegOk P jn) : MeetsOk P j := fun t u v rs xs k l hr hx hl hk => by
  rw [sem_eq P hP]
  generalize hS : (fun i => if i < j then sem P i else fun _ => R.bad) = S
  have hSb : S jb = sem P jb := by rw [← hS]; exact if_pos h1
  have hSs : S js = sem P js := by rw [← hS]; exact if_pos h2
  have hSn : S jn = sem P jn := by rw [← hS]; exact if_pos h3
  have cn := hn v xs l hx (by omega)
  have h := forL_any (f := fun d e => optF (bindT (.tp (.cons (.nm 2) (.cons (.nm 3) .nil))) d e) fun e' => exec S e' (meets_b0 jb js jn)) (enc := rw1 u) (I := fun env => ∃ o1 o2, env = [some (sq t (rs.map (rw1 u))), some (sq v (xs.map fr)), o1, o2]) (p := fun r => !(r.1.length == xs.length && decide (dot r.1 xs ≤ r.2))) (r := .bl false)
    rs [some (sq t (rs.map (rw1 u))), some (sq v (xs.map fr)), none, none] ⟨none, none, rfl⟩ (by
      rintro r env hm ⟨o1, o2, rfl⟩
      obtain ⟨z1, z2, z3⟩ := hr r hm
      by_cases he : r.1.length = xs.length
      · have cs := hs u v r.1 xs k l z1 hx he (by omega) (by
          have : (r.1.length + 1) * (k + l + 1) ≤ 51 * (k + l + 1) := Nat.mul_le_mul_right _ (by omega)
          omega)
        have cb := hb r.2 (dot r.1 xs) k _ z2 (sz_dot z1 hx z3) (by omega)
        by_cases hd : dot r.1 xs ≤ r.2
        · have : ¬ r.2 < dot r.1 xs := Rat.not_lt.mpr hd
          simp [he, hd, rw1, bindT, optF, meets_b0, exec, ev, len_sq, cmpD, eqD_int, notR, hSs, cs, hSb, cb, this]
        · have : r.2 < dot r.1 xs := Rat.not_le.mp hd
          simp [he, hd, rw1, bindT, optF, meets_b0, exec, ev, len_sq, cmpD, eqD_int, notR, hSs, cs, hSb, cb, this]
      · have : ((r.1.length : Int) == (xs.length : Int)) = false := by simp; omega
        simp [he, rw1, bindT, optF, meets_b0, exec, ev, len_sq, cmpD, eqD_int, notR, this])
  rw [any_not] at h
  simp [runF, meetsFD, exec, ev, val_sq, hSn, cn]
  cases hnn : nonneg xs with
  | false => simp [Fl.out]
  | true =>
    simp [val_sq]
    cases ha : (rs.all fun r => r.1.length == xs.length && decide (dot r.1 xs ≤ r.2)) with
    | true =>
      rw [ha] at h
      obtain ⟨e, h1, _⟩ := h
      rw [h1]
      rfl
    | false =>
      rw [ha] at h
      simp only [Bool.not_false, if_true] at h
      rw [h]
      rfl
theorem lawMeets_ok {jb js jn : Nat} (hP : P[j]? = some (lawMeetsFD jb js jn)) (h1 : jb < j) (h2 : js < j) (h3 : jn < j) (hb : LessOk P jb) (hs : ScalarOk P js) (hn : NonnegOk P jn) (t u v : Bool) (rs : List Row) (xs : List Rat) (k l : Nat) (hr : RSz k rs) (hx : VSz l xs) (hl : xs.length ≤ 50) (hk : 1 + 52 * (k + l + 1) < 9000) (hf : fits rs xs = true) :
    sem P j [sq t (rs.map (rw1 u)), sq v (xs.map fr)] = .ok (.bl (nonneg xs && keeps rs xs)) := by
  rw [sem_eq P hP]
  generalize hS : (fun i => if i < j then sem P i else fun _ => R.bad) = S
  have hSb : S jb = sem P jb := by rw [← hS]; exact if_pos h1
  have hSs : S js = sem P js := by rw [← hS]; exact if_pos h2
  have hSn : S jn = sem P jn := by rw [← hS]; exact if_pos h3
  have cn := hn v xs l hx (by omega)
  have h := forL_any (f := fun d e => optF (bindT (.nm 2) d e) fun e' => exec S e' (lawMeets_b0 jb js jn)) (enc := rw1 u) (I := fun env => ∃ o1, env = [some (sq t (rs.map (rw1 u))), some (sq v (xs.map fr)), o1]) (p := fun r => !(decide (dot r.1 xs ≤ r.2))) (r := .bl false)
    rs [some (sq t (rs.map (rw1 u))), some (sq v (xs.map fr)), none] ⟨none, rfl⟩ (by
      rintro r env hm ⟨o1, rfl⟩
      obtain ⟨z1, z2, z3⟩ := hr r hm
      have he : r.1.length = xs.length := by simpa using List.all_eq_true.mp hf r hm
      have cs := hs u v r.1 xs k l z1 hx he (by omega) (by
        have : (r.1.length + 1) * (k + l + 1) ≤ 51 * (k + l + 1) := Nat.mul_le_mul_right _ (by omega)
        omega)
      have cb := hb r.2 (dot r.1 xs) k _ z2 (sz_dot z1 hx z3) (by omega)
      by_cases hd : dot r.1 xs ≤ r.2
      · have : ¬ r.2 < dot r.1 xs := Rat.not_lt.mpr hd
        simp [hd, rw1, bindT, optF, lawMeets_b0, exec, ev, ixD, at0, at1, hSs, cs, hSb, cb, this]
      · have : r.2 < dot r.1 xs := Rat.not_le.mp hd
        simp [hd, rw1, bindT, optF, lawMeets_b0, exec, ev, ixD, at0, at1, hSs, cs, hSb, cb, this])
  rw [any_not] at h
  simp [runF, lawMeetsFD, exec, ev, val_sq, hSn, cn]
  unfold keeps
  cases hnn : nonneg xs with
  | false => simp [Fl.out]
  | true =>
    simp [val_sq]
    cases ha : (rs.all fun r => decide (dot r.1 xs ≤ r.2)) with
    | true =>
      rw [ha] at h
      obtain ⟨e, h1, _⟩ := h
      rw [h1]
      rfl
    | false =>
      rw [ha] at h
      simp only [Bool.not_false, if_true] at h
      rw [h]
      rfl
end
end Pv

/-! Pv, part X: rows summed by weights; what weights show. -/
namespace Pv
open PySem PySem.Spec PyProof.Rows L2
def cstep (s : List Rat × Rat) (p : Row × Rat) : List Rat × Rat := ((s.1.zip p.1.1).map (fun q => q.1 + p.2 * q.2), s.2 + p.2 * p.1.2)
def comb (n : Nat) (rs : List Row) (ws : List Rat) : List Rat × Rat := (rs.zip ws).foldl cstep (List.replicate n 0, 0)
theorem cstep_sz {m k l : Nat} {s : List Rat × Rat} {p : Row × Rat} (h1 : VSz m s.1) (h2 : Sz s.2 m) (h3 : VSz k p.1.1) (h4 : Sz p.1.2 k) (h5 : Sz p.2 l) : VSz (m + (k + l + 1)) (cstep s p).1 ∧ Sz (cstep s p).2 (m + (k + l + 1)) := by
  refine ⟨fun x hx => ?_, ?_⟩
  · obtain ⟨q, hq, rfl⟩ := List.mem_map.mp hx
    have := List.of_mem_zip (a := q.1) (b := q.2) hq
    exact ((h1 _ this.1).add (h5.mul (h3 _ this.2))).mono (by omega)
  · exact (h2.add (h5.mul h4)).mono (by omega)
theorem fold_sz {k l : Nat} : ∀ (ps : List (Row × Rat)) (s : List Rat × Rat) (m : Nat), VSz m s.1 → Sz s.2 m → (∀ p ∈ ps, VSz k p.1.1 ∧ Sz p.1.2 k ∧ Sz p.2 l) → VSz (m + ps.length * (k + l + 1)) (ps.foldl cstep s).1 ∧ Sz (ps.foldl cstep s).2 (m + ps.length * (k + l + 1))
  | [], s, m, h1, h2, _ => by simpa using ⟨h1, h2⟩
  | p :: ps, s, m, h1, h2, h3 => by
    obtain ⟨a, b, c⟩ := h3 p List.mem_cons_self
    obtain ⟨g1, g2⟩ := cstep_sz h1 h2 a b c
    have := fold_sz ps (cstep s p) _ g1 g2 fun q hq => h3 q (List.mem_cons_of_mem _ hq)
    rw [List.foldl_cons, List.length_cons, Nat.add_mul]
    have e : m + (k + l + 1) + ps.length * (k + l + 1) = m + (ps.length * (k + l + 1) + 1 * (k + l + 1)) := by omega
    rw [e] at this
    exact this
theorem zeros_sz (n : Nat) : VSz 1 (List.replicate n (0 : Rat)) := fun x hx => by rw [(List.mem_replicate.mp hx).2]; exact sz0
theorem pairs_sz {k l : Nat} {rs : List Row} {ws : List Rat} (hr : RSz k rs) (hw : VSz l ws) : ∀ p ∈ rs.zip ws, VSz k p.1.1 ∧ Sz p.1.2 k ∧ Sz p.2 l := fun p hp => by
  have := List.of_mem_zip (a := p.1) (b := p.2) hp
  obtain ⟨a, b, _⟩ := hr _ this.1
  exact ⟨a, b, hw _ this.2⟩
theorem comb_sz {n k l : Nat} {rs : List Row} {ws : List Rat} (hr : RSz k rs) (hw : VSz l ws) (hl : rs.length ≤ 50) : VSz (1 + 50 * (k + l + 1)) (comb n rs ws).1 ∧ Sz (comb n rs ws).2 (1 + 50 * (k + l + 1)) := by
  have := fold_sz (rs.zip ws) (List.replicate n 0, 0) 1 (zeros_sz n) sz0 (pairs_sz hr hw)
  have e : (rs.zip ws).length * (k + l + 1) ≤ 50 * (k + l + 1) := Nat.mul_le_mul_right _ (by rw [List.length_zip]; omega)
  exact ⟨fun x hx => (this.1 x hx).mono (by omega), this.2.mono (by omega)⟩
theorem fold_len {n : Nat} : ∀ (ps : List (Row × Rat)) (s : List Rat × Rat), s.1.length = n → (∀ p ∈ ps, p.1.1.length = n) → (ps.foldl cstep s).1.length = n
  | [], s, h, _ => h
  | p :: ps, s, h, hp => fold_len ps (cstep s p) (by simp [cstep, h, hp p List.mem_cons_self]) fun q hq => hp q (List.mem_cons_of_mem _ hq)
theorem fold_le {n : Nat} : ∀ (ps : List (Row × Rat)) (s : List Rat × Rat), s.1.length ≤ n → (ps.foldl cstep s).1.length ≤ n
  | [], s, h => h
  | p :: ps, s, h => fold_le ps (cstep s p) (by simp [cstep]; omega)
theorem comb_len {n : Nat} {rs : List Row} {ws : List Rat} (h : ∀ r ∈ rs, r.1.length = n) : (comb n rs ws).1.length = n :=
  fold_len _ _ (by simp) fun p hp => h _ (List.of_mem_zip (a := p.1) (b := p.2) hp).1
theorem zip_l (u : Bool) (ds es : List D) : itD .zip [.lst ds, sq u es] = .ok (.tup (zipD ds es)) := by cases u <;> rfl
section
variable {P : List FD} {j : Nat}
def CombOk (P : List FD) (j : Nat) (b : Bool) : Prop := ∀ (t u v : Bool) (n : Nat) (rs : List Row) (ws : List Rat) (k l : Nat), RSz k rs → VSz l ws → rs.length ≤ 50 → n ≤ 50 → 1 + 52 * (k + l + 1) < 9000 → (∀ r ∈ rs, r.1.length = n) → ws.length = rs.length →
  sem P j [.int (n : Int), sq t (rs.map (rw1 u)), sq v (ws.map fr)] = .ok (.tup [sq b ((comb n rs ws).1.map fr), fr (comb n rs ws).2])
theorem zeros_rng {S : Sem1} {i : Nat} {e : IE} {env : Env} {n : Nat} (he : ∀ env', ev S env' e = .ok (fr 0)) : mapO (fun d => envO (bindT (.nm i) d env) fun env' => stepC (ev S env' e)) ((List.range n).map fun k : Nat => D.int k) = some ((List.replicate n (0 : Rat)).map fr) := by
  rw [mapO_all (g := fun _ => fr 0)]
  · congr 1
    rw [List.map_replicate]
    apply List.ext_getElem <;> simp
  · intro k _
    simp [bindT, envO, he, stepC]
theorem combined_ok {jp jt : Nat} (hP : P[j]? = some (combinedFD jp jt)) (h1 : jp < j) (h2 : jt < j) (hp : PlusOk P jp) (ht : TimesOk P jt) : CombOk P j true := fun t u v n rs ws k l hr hw hrl hn hk hf hl => by
  rw [sem_eq P hP]
  generalize hS : (fun i => if i < j then sem P i else fun _ => R.bad) = S
  have hSp : S jp = sem P jp := by rw [← hS]; exact if_pos h1
  have hSt : S jt = sem P jt := by rw [← hS]; exact if_pos h2
  have pz := pairs_sz hr hw
  obtain ⟨e1, g1, o1, o2, o3, g2⟩ := forL_all (f := fun d e => optF (bindT (.tp (.cons (.tp (.cons (.nm 5) (.cons (.nm 6) .nil))) (.cons (.nm 7) .nil))) d e) fun e' => exec S e' (combined_b0 jp jt)) (enc := fun p : Row × Rat => .tup [rw1 u p.1, fr p.2])
    (fun done env => ∃ o1 o2 o3, env = [some (.int (n : Int)), some (sq t (rs.map (rw1 u))), some (sq v (ws.map fr)), some (.lst ((done.foldl cstep (List.replicate n 0, 0)).1.map fr)), some (fr (done.foldl cstep (List.replicate n 0, 0)).2), o1, o2, o3, none, none, none])
    (rs.zip ws) [some (.int (n : Int)), some (sq t (rs.map (rw1 u))), some (sq v (ws.map fr)), some (.lst ((List.replicate n (0 : Rat)).map fr)), some (fr 0), none, none, none, none, none, none] ⟨none, none, none, rfl⟩ (by
      rintro done p rest env e ⟨o1, o2, o3, rfl⟩
      have hm : p ∈ rs.zip ws := by rw [e]; simp
      have hd : ∀ q ∈ done, VSz k q.1.1 ∧ Sz q.1.2 k ∧ Sz q.2 l := fun q hq => pz q (by rw [e]; simp [hq])
      obtain ⟨a, b, c⟩ := pz p hm
      have hdl : done.length ≤ 49 := by
        have := congrArg List.length e
        rw [List.length_zip] at this
        simp at this
        omega
      have hfold := fold_sz done (List.replicate n 0, 0) 1 (zeros_sz n) sz0 hd
      have hle : (done.foldl cstep (List.replicate n 0, 0)).1.length ≤ n := fold_le _ _ (by simp)
      generalize hT : done.foldl cstep (List.replicate n 0, 0) = T at hfold hle ⊢
      have bd : 1 + done.length * (k + l + 1) + (k + l + 1) + (k + l + 1) < 9000 := by
        have : done.length * (k + l + 1) ≤ 49 * (k + l + 1) := Nat.mul_le_mul_right _ hdl
        omega
      have mm : mapO (fun d => envO (bindT (.tp (.cons (.nm 9) (.cons (.nm 10) .nil))) d (wipeE [some (.int (n : Int)), some (sq t (rs.map (rw1 u))), some (sq v (ws.map fr)), some (.lst (T.1.map fr)), some (fr T.2), some (sq u (p.1.1.map fr)), some (fr p.1.2), some (fr p.2), none, none, none] (Tg.tp (.cons (.nm 9) (.cons (.nm 10) .nil))).own)) fun env' => stepC (ev S env' (combined_e1 jp jt)))
          (zipD (T.1.map fr) (p.1.1.map fr)) = some ((cstep T p).1.map fr) := by
        rw [zipD_map, cstep, List.map_map]
        refine mapO_all _ fun q hq => ?_
        have hmm := List.of_mem_zip (a := q.1) (b := q.2) hq
        have c1 := ht p.2 q.2 l k c (a _ hmm.2) (by omega)
        have c2 := hp q.1 (p.2 * q.2) _ _ (hfold.1 _ hmm.1) (c.mul (a _ hmm.2)) (by omega)
        simp [bindT, Tg.own, wipeE, envO, combined_e1, ev, hSt, hSp, c1, c2, stepC]
      have hz : (zipD (T.1.map fr) (p.1.1.map fr)).length ≤ lim := by
        rw [zipD_map, List.length_map, List.length_zip]
        unfold lim; omega
      have c1 := ht p.2 p.1.2 l k c b (by omega)
      have c2 := hp T.2 (p.2 * p.1.2) _ _ hfold.2 (c.mul b) (by omega)
      refine ⟨_, ?_, some (sq u (p.1.1.map fr)), some (fr p.1.2), some (fr p.2), rfl⟩
      simp only [List.foldl_append, List.foldl_cons, List.foldl_nil, hT]
      simp [bindT, optF, rw1, combined_b0, exec, ev, zip_l, lcD, hz]
      rw [mm]
      simp [hSt, hSp, c1, c2, cstep])
  rw [g2] at g1
  have hr' : rngOk (n : Int) = true := by unfold rngOk; simp; omega
  have hz := zeros_rng (S := S) (i := 8) (e := combined_e0 jp jt) (env := wipeE [some (.int (n : Int)), some (sq t (rs.map (rw1 u))), some (sq v (ws.map fr)), none, none, none, none, none, none, none, none] (Tg.nm 8).own) (n := n) (fun env' => rfl)
  simp [runF, combinedFD, exec, ev, itD, hr', lcD, lim]
  rw [if_pos (by omega), hz]
  rw [fr0] at g1
  simp [zip_sq, zipD_map, -List.map_replicate]
  rw [g1]
  simp [bltD, mkT, lim]
  rfl
theorem lawSummed_ok {jp jt : Nat} (hP : P[j]? = some (lawSummedFD jp jt)) (h1 : jp < j) (h2 : jt < j) (hp : PlusOk P jp) (ht : TimesOk P jt) : CombOk P j false := fun t u v n rs ws k l hr hw hrl hn hk hf hl => by
  rw [sem_eq P hP]
  generalize hS : (fun i => if i < j then sem P i else fun _ => R.bad) = S
  have hSp : S jp = sem P jp := by rw [← hS]; exact if_pos h1
  have hSt : S jt = sem P jt := by rw [← hS]; exact if_pos h2
  have pz := pairs_sz hr hw
  have hzl : (rs.zip ws).length = rs.length := by rw [List.length_zip, hl, Nat.min_self]
  have rngn : rngOk (n : Int) = true := by unfold rngOk; simp; omega
  obtain ⟨e1, g1, o1, g2⟩ := forL_all (f := fun d e => optF (bindT (.nm 5) d e) fun e' => exec S e' (lawSummed_b0 jp jt)) (enc := fun k : Nat => D.int k)
    (fun done env => ∃ o1, env = [some (.int (n : Int)), some (sq t (rs.map (rw1 u))), some (sq v (ws.map fr)), some (.lst ((((rs.zip ws).take done.length).foldl cstep (List.replicate n 0, 0)).1.map fr)), some (fr (((rs.zip ws).take done.length).foldl cstep (List.replicate n 0, 0)).2), o1, none])
    (List.range rs.length) [some (.int (n : Int)), some (sq t (rs.map (rw1 u))), some (sq v (ws.map fr)), some (.lst ((List.replicate n (0 : Rat)).map fr)), some (fr 0), none, none] ⟨none, rfl⟩ (by
      rintro done i rest env e ⟨o1, rfl⟩
      have hi := range_at e
      have hil : i < rs.length := by
        have : i ∈ List.range rs.length := by rw [e]; simp
        exact List.mem_range.mp this
      have hil' : i < ws.length := by omega
      have hiz : i < (rs.zip ws).length := by omega
      have hp0 : (rs.zip ws)[i] = (rs[i], ws[i]) := List.getElem_zip
      have hm : (rs[i], ws[i]) ∈ rs.zip ws := by rw [← hp0]; exact List.getElem_mem hiz
      have hd : ∀ q ∈ (rs.zip ws).take i, VSz k q.1.1 ∧ Sz q.1.2 k ∧ Sz q.2 l := fun q hq => pz q (List.mem_of_mem_take hq)
      obtain ⟨a, b, c⟩ := pz _ hm
      have hfold := fold_sz ((rs.zip ws).take i) (List.replicate n 0, 0) 1 (zeros_sz n) sz0 hd
      have hlen : (((rs.zip ws).take i).foldl cstep (List.replicate n 0, 0)).1.length = n := fold_len _ _ (by simp) fun p hp => hf _ (List.of_mem_zip (a := p.1) (b := p.2) (List.mem_of_mem_take hp)).1
      rw [List.length_take, Nat.min_eq_left (by omega)] at hfold
      rw [← hi]
      have tk : (rs.zip ws).take (i + 1) = (rs.zip ws).take i ++ [(rs[i], ws[i])] := by
        rw [List.take_add_one, List.getElem?_eq_getElem hiz, hp0]; rfl
      generalize hT : ((rs.zip ws).take i).foldl cstep (List.replicate n 0, 0) = T at hfold hlen ⊢
      have bd : 1 + i * (k + l + 1) + (k + l + 1) + (k + l + 1) < 9000 := by
        have : i * (k + l + 1) ≤ 49 * (k + l + 1) := Nat.mul_le_mul_right _ (by omega)
        omega
      have hrn : (rs[i]).1.length = n := hf _ (List.getElem_mem hil)
      have hcl : (cstep T (rs[i], ws[i])).1.length = n := by simp [cstep, hlen, hrn]
      have mm : mapO (fun d => envO (bindT (.nm 6) d (wipeE [some (.int (n : Int)), some (sq t (rs.map (rw1 u))), some (sq v (ws.map fr)), some (.lst (T.1.map fr)), some (fr T.2), some (.int (i : Int)), none] (Tg.nm 6).own)) fun env' => stepC (ev S env' (lawSummed_e1 jp jt)))
          ((List.range n).map fun k : Nat => D.int k) = some ((cstep T (rs[i], ws[i])).1.map fr) := by
        rw [mapO_all (g := fun q : Nat => fr ((cstep T (rs[i], ws[i])).1[q]?.getD 0))]
        · congr 1
          apply List.ext_getElem
          · simp [hcl]
          · intro q hq1 hq2
            have hq3 : q < (cstep T (rs[i], ws[i])).1.length := by simpa using hq2
            simp [List.getElem?_eq_getElem hq3]
        · intro q hq
          have hq := List.mem_range.mp hq
          have q1 : q < T.1.length := by omega
          have q2 : q < (rs[i]).1.length := by omega
          have c1 := ht ws[i] (rs[i]).1[q] l k c (a _ (List.getElem_mem q2)) (by omega)
          have c2 := hp T.1[q] (ws[i] * (rs[i]).1[q]) _ _ (hfold.1 _ (List.getElem_mem q1)) (c.mul (a _ (List.getElem_mem q2))) (by omega)
          have e3 : (cstep T (rs[i], ws[i])).1[q]?.getD 0 = T.1[q] + ws[i] * (rs[i]).1[q] := by
            rw [List.getElem?_eq_getElem (by omega)]
            simp [cstep]
          have a1 : atD (T.1.map fr) (q : Int) = .ok (fr T.1[q]) := at_map q1
          have a2 : ixD (sq v (ws.map fr)) (.int (i : Int)) = .ok (fr ws[i]) := by rw [ix_sq]; exact at_map hil'
          have a3 : ixD (sq t (rs.map (rw1 u))) (.int (i : Int)) = .ok (rw1 u rs[i]) := by rw [ix_sq]; exact at_map hil
          have a4 : ixD (sq u ((rs[i]).1.map fr)) (.int (q : Int)) = .ok (fr (rs[i]).1[q]) := by rw [ix_sq]; exact at_map q2
          have a5 : ixD (rw1 u rs[i]) (.int 0) = .ok (sq u ((rs[i]).1.map fr)) := rfl
          have a6 : ixD (.lst (T.1.map fr)) (.int (q : Int)) = .ok (fr T.1[q]) := a1
          simp [bindT, Tg.own, wipeE, envO, lawSummed_e1, ev, hSt, hSp, a2, a3, a4, a5, a6, c1, c2, e3, stepC]
      have c1 := ht ws[i] (rs[i]).2 l k c b (by omega)
      have c2 := hp T.2 (ws[i] * (rs[i]).2) _ _ hfold.2 (c.mul b) (by omega)
      have a2 : ixD (sq v (ws.map fr)) (.int (i : Int)) = .ok (fr ws[i]) := by rw [ix_sq]; exact at_map hil'
      have a3 : ixD (sq t (rs.map (rw1 u))) (.int (i : Int)) = .ok (rw1 u rs[i]) := by rw [ix_sq]; exact at_map hil
      have a5 : ixD (rw1 u rs[i]) (.int 1) = .ok (fr (rs[i]).2) := rfl
      refine ⟨_, ?_, some (.int (i : Int)), rfl⟩
      have hdl : (done ++ [i]).length = i + 1 := by simp [hi]
      rw [hdl, tk, List.foldl_append, hT, List.foldl_cons, List.foldl_nil]
      have hnl : n ≤ lim := by unfold lim; omega
      show exec S [some (.int (n : Int)), some (sq t (rs.map (rw1 u))), some (sq v (ws.map fr)), some (.lst (T.1.map fr)), some (fr T.2), some (.int (i : Int)), none] (lawSummed_b0 jp jt) = _
      simp [lawSummed_b0, exec, ev, itD, rngn, lcD, hnl]
      rw [mm]
      simp [hSt, hSp, a2, a3, a5, c1, c2, cstep])
  have hfin : (rs.zip ws).take (List.range rs.length).length = rs.zip ws := List.take_of_length_le (by simp; omega)
  rw [hfin] at g2
  rw [g2] at g1
  have rngr : rngOk (rs.length : Int) = true := by unfold rngOk; simp; omega
  have hz := zeros_rng (S := S) (i := 5) (e := lawSummed_e0 jp jt) (env := wipeE [some (.int (n : Int)), some (sq t (rs.map (rw1 u))), some (sq v (ws.map fr)), none, none, none, none] (Tg.nm 5).own) (n := n) (fun env' => rfl)
  have hnl : n ≤ 1000000 := by omega
  simp [runF, lawSummedFD, exec, ev, itD, rngn, lcD, lim, mkT]
  rw [if_pos hnl, hz]
  rw [fr0] at g1
  simp [len_sq, -List.map_replicate]
  have hit : itD .rng [.int (rs.length : Int)] = .ok (.tup ((List.range rs.length).map fun k : Nat => D.int k)) := by simp [itD, rngr]
  rw [hit]
  simp only []
  rw [g1]
  simp
  rfl
end
end Pv

/-! Pv, part Y: bounds, bars, the most, the endless. -/
namespace Pv
open PySem PySem.Spec PyProof.Rows L2
def covers (g s : List Rat) : Bool := (g.zip s).all fun p => decide (p.1 ≤ p.2)
def boundS (g : List Rat) (rs : List Row) (ws : List Rat) (v : Rat) : Bool := nonneg ws && (covers g (comb g.length rs ws).1 && decide ((comb g.length rs ws).2 ≤ v))
def barS (n : Nat) (rs : List Row) (ws : List Rat) : Bool := nonneg ws && (nonneg (comb n rs ws).1 && decide ((comb n rs ws).2 < 0))
def growS (g : List Rat) (rs : List Row) (gr : List Rat) : Bool := nonneg gr && (rs.all (fun r => decide (dot r.1 gr ≤ 0)) && decide (0 < dot g gr))
theorem optF_some (e : Env) (f : Env → Fl) : optF (some e) f = f e := rfl
theorem dec_nlt (a b : Rat) : decide (a < b) = !decide (b ≤ a) := by
  by_cases h : b ≤ a
  · have : ¬ a < b := Rat.not_lt.mpr h
    simp [h, this]
  · have : a < b := Rat.not_le.mp h
    simp [h, this]
section
variable {P : List FD} {j : Nat}
def BoundOk (P : List FD) (j : Nat) : Prop := ∀ (t u v w : Bool) (g : List Rat) (rs : List Row) (ws : List Rat) (x : Rat) (k l m : Nat), RSz k rs → VSz l ws → VSz m g → Sz x m → rs.length ≤ 50 → g.length ≤ 50 → 1 + 52 * (k + l + 1) + m < 9000 →
  sem P j [sq w (g.map fr), sq t (rs.map (rw1 u)), sq v (ws.map fr), fr x] = .ok (.bl (ws.length == rs.length && (nonneg ws && (rs.all (fun r => r.1.length == g.length) && (covers g (comb g.length rs ws).1 && decide ((comb g.length rs ws).2 ≤ x))))))
theorem showsBound_ok {jb jn jc jm : Nat} (hP : P[j]? = some (showsBoundFD jb jn jc jm)) (h1 : jb < j) (h2 : jn < j) (h3 : jc < j) (h4 : jm < j) (hb : LessOk P jb) (hn : NonnegOk P jn) (hc : CombOk P jc true) (hm : MostOk P jm) : BoundOk P j := fun t u v w g rs ws x k l m hr hw hg hx hrl hgl hk => by
  rw [sem_eq P hP]
  generalize hS : (fun i => if i < j then sem P i else fun _ => R.bad) = S
  have hSb : S jb = sem P jb := by rw [← hS]; exact if_pos h1
  have hSn : S jn = sem P jn := by rw [← hS]; exact if_pos h2
  have hSc : S jc = sem P jc := by rw [← hS]; exact if_pos h3
  have hSm : S jm = sem P jm := by rw [← hS]; exact if_pos h4
  have cn := hn v ws l hw (by omega)
  by_cases hl : ws.length = rs.length
  · have hl' : ((ws.length : Int) == (rs.length : Int)) = true := by simp; omega
    cases hnn : nonneg ws with
    | false =>
      rw [hnn] at cn
      simp [runF, showsBoundFD, exec, ev, len_sq, cmpD, eqD_int, notR, hl, hSn, cn, Fl.out]
    | true =>
      rw [hnn] at cn
      have f1 := forL_any (f := fun d e => optF (bindT (.nm 4) d e) fun e' => exec S e' (showsBound_b0 jb jn jc jm)) (enc := rw1 u) (I := fun env => ∃ o, env = [some (sq w (g.map fr)), some (sq t (rs.map (rw1 u))), some (sq v (ws.map fr)), some (fr x), o, none, none, none, none]) (p := fun r => !(r.1.length == g.length)) (r := .bl false)
        rs [some (sq w (g.map fr)), some (sq t (rs.map (rw1 u))), some (sq v (ws.map fr)), some (fr x), none, none, none, none, none] ⟨none, rfl⟩ (by
          rintro r env hmm ⟨o, rfl⟩
          have a5 : ixD (rw1 u r) (.int 0) = .ok (sq u (r.1.map fr)) := rfl
          by_cases he : r.1.length = g.length
          · simp [he, bindT, optF, showsBound_b0, exec, ev, a5, len_sq, cmpD, eqD_int, notR]
          · have : ((r.1.length : Int) == (g.length : Int)) = false := by simp; omega
            simp [he, bindT, optF, showsBound_b0, exec, ev, a5, len_sq, cmpD, eqD_int, notR, this])
      rw [any_not] at f1
      simp [runF, showsBoundFD, exec, ev, len_sq, cmpD, eqD_int, notR, hl, hSn, cn, val_sq]
      cases ha : (rs.all fun r => r.1.length == g.length) with
      | false =>
        rw [ha] at f1
        simp only [Bool.not_false, if_true] at f1
        rw [f1]
        rfl
      | true =>
        rw [ha] at f1
        obtain ⟨e1, g1, o, g2⟩ := f1
        rw [g1, g2]
        have hf : ∀ r ∈ rs, r.1.length = g.length := fun r hr => by simpa using List.all_eq_true.mp ha r hr
        have cc := hc t u v g.length rs ws k l hr hw hrl hgl (by omega) hf hl
        have csz := comb_sz (n := g.length) hr hw hrl
        generalize hT : comb g.length rs ws = T at cc csz ⊢
        have f2 := forL_any (f := fun d e => optF (bindT (.tp (.cons (.nm 7) (.cons (.nm 8) .nil))) d e) fun e' => exec S e' (showsBound_b1 jb jn jc jm)) (enc := fun p : Rat × Rat => .tup [fr p.1, fr p.2]) (I := fun env => ∃ o7 o8, env = [some (sq w (g.map fr)), some (sq t (rs.map (rw1 u))), some (sq v (ws.map fr)), some (fr x), o, some (.tup (T.1.map fr)), some (fr T.2), o7, o8]) (p := fun p => !(decide (p.1 ≤ p.2))) (r := .bl false)
          (g.zip T.1) [some (sq w (g.map fr)), some (sq t (rs.map (rw1 u))), some (sq v (ws.map fr)), some (fr x), o, some (.tup (T.1.map fr)), some (fr T.2), none, none] ⟨none, none, rfl⟩ (by
            rintro p env hmm ⟨o7, o8, rfl⟩
            have hz := List.of_mem_zip (a := p.1) (b := p.2) hmm
            have cb := hb p.2 p.1 _ m (csz.1 _ hz.2) (hg _ hz.1) (by omega)
            rw [dec_nlt] at cb
            by_cases hd : p.1 ≤ p.2
            · simp [hd] at cb
              simp [hd, bindT, optF, showsBound_b1, exec, ev, hSb, cb]
            · simp [hd] at cb
              simp [hd, bindT, optF, showsBound_b1, exec, ev, hSb, cb])
        rw [any_not] at f2
        have hzz : itD .zip [sq w (g.map fr), .tup (T.1.map fr)] = .ok (.tup ((g.zip T.1).map fun p => .tup [fr p.1, fr p.2])) := by
          have := zip_sq w true (g.map fr) (T.1.map fr)
          rw [zipD_map] at this
          exact this
        have cc' : sem P jc [.int (g.length : Int), sq t (rs.map (rw1 u)), sq v (ws.map fr)] = .ok (.tup [.tup (T.1.map fr), fr T.2]) := cc
        simp [bindT, optF_some, len_sq, hSc, cc', hzz]
        unfold covers
        cases hcv : ((g.zip T.1).all fun p => decide (p.1 ≤ p.2)) with
        | false =>
          rw [hcv] at f2
          simp only [Bool.not_false, if_true] at f2
          rw [f2]
          rfl
        | true =>
          rw [hcv] at f2
          obtain ⟨e2, q1, o7, o8, q2⟩ := f2
          rw [q1, q2]
          have cm := hm T.2 x _ m csz.2 hx (by omega)
          simp [hSm, cm, Fl.out]
  · have hl' : ((ws.length : Int) == (rs.length : Int)) = false := by simp; omega
    simp [runF, showsBoundFD, exec, ev, len_sq, cmpD, eqD_int, notR, hl, hl', Fl.out]
theorem lawBoundsGoal_ok {jb jn jc : Nat} (hP : P[j]? = some (lawBoundsGoalFD jb jn jc)) (h1 : jb < j) (h2 : jn < j) (h3 : jc < j) (hb : LessOk P jb) (hn : NonnegOk P jn) (hc : CombOk P jc false) (t u v w : Bool) (g : List Rat) (rs : List Row) (ws : List Rat) (x : Rat) (k l m : Nat) (hr : RSz k rs) (hw : VSz l ws) (hg : VSz m g) (hx : Sz x m) (hrl : rs.length ≤ 50) (hgl : g.length ≤ 50) (hk : 1 + 52 * (k + l + 1) + m < 9000)
    (hf : ∀ r ∈ rs, r.1.length = g.length) (hl : ws.length = rs.length) :
    sem P j [sq w (g.map fr), sq t (rs.map (rw1 u)), sq v (ws.map fr), fr x] = .ok (.bl (nonneg ws && (covers g (comb g.length rs ws).1 && decide ((comb g.length rs ws).2 ≤ x)))) := by
  rw [sem_eq P hP]
  generalize hS : (fun i => if i < j then sem P i else fun _ => R.bad) = S
  have hSb : S jb = sem P jb := by rw [← hS]; exact if_pos h1
  have hSn : S jn = sem P jn := by rw [← hS]; exact if_pos h2
  have hSc : S jc = sem P jc := by rw [← hS]; exact if_pos h3
  have cn := hn v ws l hw (by omega)
  cases hnn : nonneg ws with
  | false =>
    rw [hnn] at cn
    simp [runF, lawBoundsGoalFD, exec, ev, hSn, cn, Fl.out]
  | true =>
    rw [hnn] at cn
    have cc := hc t u v g.length rs ws k l hr hw hrl hgl (by omega) hf hl
    have csz := comb_sz (n := g.length) hr hw hrl
    have clen := comb_len (ws := ws) hf
    generalize hT : comb g.length rs ws = T at cc csz clen ⊢
    have cc' : sem P jc [.int (g.length : Int), sq t (rs.map (rw1 u)), sq v (ws.map fr)] = .ok (.tup [.lst (T.1.map fr), fr T.2]) := cc
    have f2 := forL_any (f := fun d e => optF (bindT (.nm 5) d e) fun e' => exec S e' (lawBoundsGoal_b0 jb jn jc)) (enc := fun k : Nat => D.int k) (I := fun env => ∃ o, env = [some (sq w (g.map fr)), some (sq t (rs.map (rw1 u))), some (sq v (ws.map fr)), some (fr x), some (.tup [.lst (T.1.map fr), fr T.2]), o]) (p := fun i => !(decide ((g[i]?).getD 0 ≤ (T.1[i]?).getD 0))) (r := .bl false)
      (List.range g.length) [some (sq w (g.map fr)), some (sq t (rs.map (rw1 u))), some (sq v (ws.map fr)), some (fr x), some (.tup [.lst (T.1.map fr), fr T.2]), none] ⟨none, rfl⟩ (by
        rintro i env hmm ⟨o, rfl⟩
        have hi := List.mem_range.mp hmm
        have hi2 : i < T.1.length := by omega
        have cb := hb T.1[i] g[i] _ m (csz.1 _ (List.getElem_mem hi2)) (hg _ (List.getElem_mem hi)) (by omega)
        rw [dec_nlt] at cb
        have a1 : ixD (sq w (g.map fr)) (.int (i : Int)) = .ok (fr g[i]) := by rw [ix_sq]; exact at_map hi
        have a2 : ixD (.lst (T.1.map fr)) (.int (i : Int)) = .ok (fr T.1[i]) := at_map hi2
        have a3 : ixD (.tup [.lst (T.1.map fr), fr T.2]) (.int 0) = .ok (.lst (T.1.map fr)) := rfl
        rw [List.getElem?_eq_getElem hi, List.getElem?_eq_getElem hi2]
        simp only [Option.getD_some]
        by_cases hd : g[i] ≤ T.1[i]
        · simp [hd] at cb
          simp [hd, bindT, optF, lawBoundsGoal_b0, exec, ev, a1, a2, a3, hSb, cb]
        · simp [hd] at cb
          simp [hd, bindT, optF, lawBoundsGoal_b0, exec, ev, a1, a2, a3, hSb, cb])
    rw [any_not] at f2
    have hcv : ((List.range g.length).all fun i => decide ((g[i]?).getD 0 ≤ (T.1[i]?).getD 0)) = covers g T.1 := by
      unfold covers
      rw [Bool.eq_iff_iff, List.all_eq_true, List.all_eq_true]
      constructor
      · intro h p hp
        obtain ⟨i, hi, e⟩ := List.mem_iff_getElem.mp hp
        rw [List.length_zip] at hi
        have h1 : i < g.length := by omega
        have h2 : i < T.1.length := by omega
        have := h i (List.mem_range.mpr h1)
        rw [List.getElem?_eq_getElem h1, List.getElem?_eq_getElem h2] at this
        rw [← e, List.getElem_zip]
        exact this
      · intro h i hi
        have h1 := List.mem_range.mp hi
        have h2 : i < T.1.length := by omega
        have := h (g[i], T.1[i]) (by
          rw [List.mem_iff_getElem]
          exact ⟨i, by rw [List.length_zip]; omega, List.getElem_zip⟩)
        rw [List.getElem?_eq_getElem h1, List.getElem?_eq_getElem h2]
        exact this
    rw [hcv] at f2
    have rngg : itD .rng [.int (g.length : Int)] = .ok (.tup ((List.range g.length).map fun k : Nat => D.int k)) := by
      have : rngOk (g.length : Int) = true := by unfold rngOk; simp; omega
      simp [itD, this]
    simp [runF, lawBoundsGoalFD, exec, ev, hSn, cn, len_sq, hSc, cc', rngg]
    cases hc2 : covers g T.1 with
    | false =>
      rw [hc2] at f2
      simp only [Bool.not_false, if_true] at f2
      rw [f2]
      rfl
    | true =>
      rw [hc2] at f2
      obtain ⟨e2, q1, o, q2⟩ := f2
      rw [q1, q2]
      have cm := hb x T.2 m _ hx csz.2 (by omega)
      have a3 : ixD (.tup [.lst (T.1.map fr), fr T.2]) (.int 1) = .ok (fr T.2) := rfl
      rw [dec_nlt] at cm
      simp [hSb, cm, a3, Fl.out]
def barFull (rs : List Row) (ws : List Rat) : Bool := match rs with
  | [] => false
  | r0 :: _ => ws.length == rs.length && (rs.all (fun r => r.1.length == r0.1.length) && barS r0.1.length rs ws)
theorem showsBar_ok {jn jc jb : Nat} (hP : P[j]? = some (showsBarFD jn jc jb)) (h1 : jn < j) (h2 : jc < j) (h3 : jb < j) (hn : NonnegOk P jn) (hc : CombOk P jc true) (hb : LessOk P jb) (t u v : Bool) (rs : List Row) (ws : List Rat) (k l : Nat) (hr : RSz k rs) (hw : VSz l ws) (hrl : rs.length ≤ 50) (hk : 1 + 52 * (k + l + 1) < 8990) :
    sem P j [sq t (rs.map (rw1 u)), sq v (ws.map fr)] = .ok (.bl (barFull rs ws)) := by
  rw [sem_eq P hP]
  generalize hS : (fun i => if i < j then sem P i else fun _ => R.bad) = S
  have hSn : S jn = sem P jn := by rw [← hS]; exact if_pos h1
  have hSc : S jc = sem P jc := by rw [← hS]; exact if_pos h2
  have hSb : S jb = sem P jb := by rw [← hS]; exact if_pos h3
  have cn := hn v ws l hw (by omega)
  by_cases hl : ws.length = rs.length
  · cases hnn : nonneg ws with
    | false =>
      rw [hnn] at cn
      have : barFull rs ws = false := by
        unfold barFull barS
        split
        · rfl
        · simp [hnn]
      rw [this]
      simp [runF, showsBarFD, exec, ev, len_sq, cmpD, eqD_int, notR, hl, hSn, cn, Fl.out]
    | true =>
      rw [hnn] at cn
      cases rs with
      | nil =>
        simp at hl
        simp [runF, showsBarFD, exec, ev, len_sq, cmpD, eqD_int, notR, hl, hSn, val_sq, forL, barFull, Fl.out]
        have cn' : sem P jn [sq v []] = .ok (.bl true) := by
          have := hn v [] l (by intro x hx; cases hx) (by omega)
          simpa [nonneg] using this
        simp [cn', val_sq, len_sq, forL, eqD_int, Fl.out]
      | cons r0 rs' =>
        generalize hR : r0 :: rs' = rs at *
        have hlen0 : 0 < rs.length := by rw [← hR]; simp
        have h0 : rs[0] = r0 := by simp [← hR]
        have a0 : ixD (sq t (rs.map (rw1 u))) (.int 0) = .ok (rw1 u r0) := by
          rw [ix_sq]
          have := at_map (f := rw1 u) hlen0
          rw [h0] at this
          exact this
        have a1 : ∀ r, ixD (rw1 u r) (.int 0) = .ok (sq u (r.1.map fr)) := fun _ => rfl
        have f1 := forL_any (f := fun d e => optF (bindT (.nm 2) d e) fun e' => exec S e' (showsBar_b0 jn jc jb)) (enc := rw1 u) (I := fun env => ∃ o, env = [some (sq t (rs.map (rw1 u))), some (sq v (ws.map fr)), o, none, none]) (p := fun r => !(r.1.length == r0.1.length)) (r := .bl false)
          rs [some (sq t (rs.map (rw1 u))), some (sq v (ws.map fr)), none, none, none] ⟨none, rfl⟩ (by
            rintro r env hmm ⟨o, rfl⟩
            by_cases he : r.1.length = r0.1.length
            · simp [he, bindT, optF, showsBar_b0, exec, ev, a0, a1, len_sq, cmpD, eqD_int, notR]
            · have : ((r.1.length : Int) == (r0.1.length : Int)) = false := by simp; omega
              simp [he, bindT, optF, showsBar_b0, exec, ev, a0, a1, len_sq, cmpD, eqD_int, notR, this])
        rw [any_not] at f1
        have hbf : barFull rs ws = ((rs.all fun r => r.1.length == r0.1.length) && barS r0.1.length rs ws) := by
          rw [← hR]
          unfold barFull
          have : (ws.length == (r0 :: rs').length) = true := by rw [hR]; simp [hl]
          simp only [this, Bool.true_and]
        rw [hbf]
        have hne : ((rs.length : Int) == 0) = false := by rw [beq_eq_false_iff_ne]; omega
        simp [runF, showsBarFD, exec, ev, len_sq, cmpD, eqD_int, notR, hl, hSn, cn, val_sq]
        cases ha : (rs.all fun r => r.1.length == r0.1.length) with
        | false =>
          rw [ha] at f1
          simp only [Bool.not_false, if_true] at f1
          rw [f1]
          rfl
        | true =>
          rw [ha] at f1
          obtain ⟨e1, g1, o, g2⟩ := f1
          rw [g1, g2]
          have hf : ∀ r ∈ rs, r.1.length = r0.1.length := fun r hr => by simpa using List.all_eq_true.mp ha r hr
          have h50 : r0.1.length ≤ 50 := (hr r0 (by rw [← hR]; simp)).2.2
          have cc := hc t u v r0.1.length rs ws k l hr hw hrl h50 (by omega) hf hl
          have csz := comb_sz (n := r0.1.length) hr hw hrl
          unfold barS
          rw [hnn]
          generalize hT : comb r0.1.length rs ws = T at cc csz ⊢
          have cc' : sem P jc [.int (r0.1.length : Int), sq t (rs.map (rw1 u)), sq v (ws.map fr)] = .ok (.tup [.tup (T.1.map fr), fr T.2]) := cc
          have cn2 : sem P jn [.tup (T.1.map fr)] = .ok (.bl (nonneg T.1)) := hn true T.1 _ csz.1 (by omega)
          have cb := hb T.2 0 _ 1 csz.2 sz0 (by omega)
          rw [fr0] at cb
          have hne2 : ¬ rs = [] := by intro z; rw [z] at hlen0; simp at hlen0
          have heq : eqD (.int (rs.length : Int)) (.int 0) = .ok (.bl false) := by rw [eqD_int, hne]
          simp [heq, bindT, optF_some, a0, a1, len_sq, hSc, cc', hSn, cn2, hSb, cb]
          cases nonneg T.1 <;> simp [Fl.out]
  · have hl' : ((ws.length : Int) == (rs.length : Int)) = false := by simp; omega
    have : barFull rs ws = false := by
      cases rs with
      | nil => rfl
      | cons r0 r =>
        unfold barFull
        have : (ws.length == (r0 :: r).length) = false := by simpa using hl
        simp only [this, Bool.false_and]
    rw [this]
    simp [runF, showsBarFD, exec, ev, len_sq, cmpD, eqD_int, notR, hl, hl', Fl.out]
/-! ### what is plain can be compared -/
theorem cmp_fr (q : Rat) : D.cmpOk (fr q) = true ∧ D.dp (fr q) ≤ 2 := by
  constructor
  · rfl
  · simp [fr, D.dp, D.dpA]
theorem cmp_frs (xs : List Rat) : D.cmpOkA (xs.map fr) = true ∧ D.dpA (xs.map fr) ≤ 2 := by
  induction xs with
  | nil => simp [D.cmpOkA, D.dpA]
  | cons x xs ih =>
    obtain ⟨h1, h2⟩ := cmp_fr x
    simp only [List.map_cons, D.cmpOkA, D.dpA, h1, ih.1, Bool.and_self, true_and]
    omega
theorem cmp_row (u : Bool) (r : Row) : D.cmpOk (rw1 u r) = true ∧ D.dp (rw1 u r) ≤ 4 := by
  obtain ⟨h1, h2⟩ := cmp_frs r.1
  obtain ⟨h3, h4⟩ := cmp_fr r.2
  cases u <;> simp [rw1, sq, D.cmpOk, D.cmpOkA, D.dp, D.dpA, h1, h3] <;> omega
theorem cmp_rows (u : Bool) (rs : List Row) : D.cmpOkA (rs.map (rw1 u)) = true ∧ D.dpA (rs.map (rw1 u)) ≤ 4 := by
  induction rs with
  | nil => simp [D.cmpOkA, D.dpA]
  | cons x xs ih =>
    obtain ⟨h1, h2⟩ := cmp_row u x
    simp only [List.map_cons, D.cmpOkA, D.dpA, h1, ih.1, Bool.and_self, true_and]
    omega
theorem eq_nil (u : Bool) (rs : List Row) : eqD (.lst (rs.map (rw1 u))) (.lst []) = .ok (.bl rs.isEmpty) := by
  obtain ⟨h1, h2⟩ := cmp_rows u rs
  have e1 : D.cmpOk (.lst (rs.map (rw1 u))) = true := by simp [D.cmpOk, h1]
  have e2 : D.dp (.lst (rs.map (rw1 u))) ≤ 60 := by simp [D.dp]; omega
  have e3 : D.cmpOk (.lst []) = true := rfl
  have e4 : D.dp (.lst []) ≤ 60 := by simp [D.dp, D.dpA]
  unfold eqD
  rw [if_pos (by rw [e1, e3]; simp [e2, e4])]
  cases rs <;> simp [D.eqv, D.eqvA]
theorem lawBars_ok {jn jc : Nat} (hP : P[j]? = some (lawBarsFD jn jc)) (h1 : jn < j) (h2 : jc < j) (hn : NonnegOk P jn) (hc : CombOk P jc false) (u v : Bool) (n : Nat) (rs : List Row) (ws : List Rat) (k l : Nat) (hr : RSz k rs) (hw : VSz l ws) (hrl : rs.length ≤ 50) (hnl : n ≤ 50) (hk : 1 + 52 * (k + l + 1) < 8990)
    (hf : ∀ r ∈ rs, r.1.length = n) (hl : ws.length = rs.length) : sem P j [.int (n : Int), .lst (rs.map (rw1 u)), sq v (ws.map fr)] = .ok (.bl (!rs.isEmpty && barS n rs ws)) := by
  rw [sem_eq P hP]
  generalize hS : (fun i => if i < j then sem P i else fun _ => R.bad) = S
  have hSn : S jn = sem P jn := by rw [← hS]; exact if_pos h1
  have hSc : S jc = sem P jc := by rw [← hS]; exact if_pos h2
  have cn := hn v ws l hw (by omega)
  have e0 := eq_nil u rs
  cases he : rs.isEmpty with
  | true =>
    rw [he] at e0
    simp [runF, lawBarsFD, exec, ev, mkL, lim, cmpD, e0, Fl.out]
  | false =>
    rw [he] at e0
    unfold barS
    cases hnn : nonneg ws with
    | false =>
      rw [hnn] at cn
      simp [runF, lawBarsFD, exec, ev, mkL, lim, cmpD, e0, hSn, cn, Fl.out]
    | true =>
      rw [hnn] at cn
      have cc := hc false u v n rs ws k l hr hw hrl hnl (by omega) hf hl
      have csz := comb_sz (n := n) hr hw hrl
      generalize hT : comb n rs ws = T at cc csz ⊢
      have cc' : sem P jc [.int (n : Int), .lst (rs.map (rw1 u)), sq v (ws.map fr)] = .ok (.tup [.lst (T.1.map fr), fr T.2]) := cc
      have cn2 : sem P jn [.lst (T.1.map fr)] = .ok (.bl (nonneg T.1)) := hn false T.1 _ csz.1 (by omega)
      have a3 : ixD (.tup [.lst (T.1.map fr), fr T.2]) (.int 0) = .ok (.lst (T.1.map fr)) := rfl
      have a4 : ixD (.tup [.lst (T.1.map fr), fr T.2]) (.int 1) = .ok (fr T.2) := rfl
      have a5 : ixD (fr T.2) (.int 0) = .ok (.int T.2.num) := rfl
      simp [runF, lawBarsFD, exec, ev, mkL, lim, cmpD, e0, hSn, cn, hSc, cc', a3, a4, a5, cn2, cmpI, num_neg]
      cases nonneg T.1 <;> simp [Fl.out]
def MostsOk (P : List FD) (j : Nat) : Prop := ∀ (t u v w z : Bool) (g : List Rat) (rs : List Row) (xs ws : List Rat) (k l m o : Nat), RSz k rs → VSz l ws → VSz m g → VSz o xs → rs.length ≤ 50 → g.length ≤ 50 → xs.length ≤ 50 → 2 + 52 * (k + l + 1) + 52 * (m + o + 1) < 8990 → 1 + 52 * (k + o + 1) < 9000 →
  sem P j [sq w (g.map fr), sq t (rs.map (rw1 u)), sq z (xs.map fr), sq v (ws.map fr)] = .ok (.bl (xs.length == g.length && ((nonneg xs && rs.all fun r => r.1.length == xs.length && decide (dot r.1 xs ≤ r.2)) && (ws.length == rs.length && (nonneg ws && (rs.all (fun r => r.1.length == g.length) && (covers g (comb g.length rs ws).1 && decide ((comb g.length rs ws).2 ≤ dot g xs))))))))
theorem showsMost_ok {jm jb js : Nat} (hP : P[j]? = some (showsMostFD jm jb js)) (h1 : jm < j) (h2 : jb < j) (h3 : js < j) (hm : MeetsOk P jm) (hb : BoundOk P jb) (hs : ScalarOk P js) : MostsOk P j := fun t u v w z g rs xs ws k l m o hr hw hg hx hrl hgl hxl hk hk2 => by
  rw [sem_eq P hP]
  generalize hS : (fun i => if i < j then sem P i else fun _ => R.bad) = S
  have hSm : S jm = sem P jm := by rw [← hS]; exact if_pos h1
  have hSb : S jb = sem P jb := by rw [← hS]; exact if_pos h2
  have hSs : S js = sem P js := by rw [← hS]; exact if_pos h3
  by_cases hl : xs.length = g.length
  · have cm := hm t u z rs xs k o hr hx hxl hk2
    cases hM : (nonneg xs && rs.all fun r => r.1.length == xs.length && decide (dot r.1 xs ≤ r.2)) with
    | false =>
      rw [hM] at cm
      simp [runF, showsMostFD, exec, ev, len_sq, cmpD, eqD_int, notR, hl, hSm, cm, Fl.out]
    | true =>
      rw [hM] at cm
      have b1 : (g.length + 1) * (m + o + 1) ≤ 51 * (m + o + 1) := Nat.mul_le_mul_right _ (by omega)
      have cs := hs w z g xs m o hg hx hl.symm (by omega) (by omega)
      have cb := hb t u v w g rs ws (dot g xs) k l (m + (1 + 50 * (m + o + 1))) hr hw (fun x h => (hg x h).mono (by omega)) ((sz_dot hg hx hgl).mono (by omega)) hrl hgl (by omega)
      simp [runF, showsMostFD, exec, ev, len_sq, cmpD, eqD_int, notR, hl, hSm, cm, hSs, cs, hSb, cb, Fl.out]
  · have hl' : ((xs.length : Int) == (g.length : Int)) = false := by rw [beq_eq_false_iff_ne]; omega
    simp [runF, showsMostFD, exec, ev, len_sq, cmpD, eqD_int, notR, hl, hl', Fl.out]
def EndsOk (P : List FD) (j : Nat) : Prop := ∀ (t u v w z : Bool) (g : List Rat) (rs : List Row) (xs gr : List Rat) (k m o q : Nat), RSz k rs → VSz m g → VSz o xs → VSz q gr → rs.length ≤ 50 → g.length ≤ 50 → xs.length ≤ 50 → gr.length ≤ 50 → 1 + 52 * (k + o + 1) < 9000 → 1 + 52 * (k + q + 1) < 8990 → 1 + 52 * (m + q + 1) < 8990 →
  sem P j [sq w (g.map fr), sq t (rs.map (rw1 u)), sq z (xs.map fr), sq v (gr.map fr)] = .ok (.bl (xs.length == g.length && (gr.length == g.length && ((nonneg xs && rs.all fun r => r.1.length == xs.length && decide (dot r.1 xs ≤ r.2)) && growS g rs gr))))
theorem showsEndless_ok {jb js jm jn : Nat} (hP : P[j]? = some (showsEndlessFD jb js jm jn)) (h1 : jb < j) (h2 : js < j) (h3 : jm < j) (h4 : jn < j) (hb : LessOk P jb) (hs : ScalarOk P js) (hm : MeetsOk P jm) (hn : NonnegOk P jn) : EndsOk P j := fun t u v w z g rs xs gr k m o q hr hg hx hq hrl hgl hxl hql hk1 hk2 hk3 => by
  rw [sem_eq P hP]
  generalize hS : (fun i => if i < j then sem P i else fun _ => R.bad) = S
  have hSb : S jb = sem P jb := by rw [← hS]; exact if_pos h1
  have hSs : S js = sem P js := by rw [← hS]; exact if_pos h2
  have hSm : S jm = sem P jm := by rw [← hS]; exact if_pos h3
  have hSn : S jn = sem P jn := by rw [← hS]; exact if_pos h4
  by_cases hl : xs.length = g.length
  · by_cases hl2 : gr.length = g.length
    · have cm := hm t u z rs xs k o hr hx hxl hk1
      cases hM : (nonneg xs && rs.all fun r => r.1.length == xs.length && decide (dot r.1 xs ≤ r.2)) with
      | false =>
        rw [hM] at cm
        simp [runF, showsEndlessFD, exec, ev, len_sq, cmpD, eqD_int, notR, hl, hl2, hSm, cm, Fl.out]
      | true =>
        rw [hM] at cm
        have cn := hn v gr q hq (by omega)
        unfold growS
        cases hN : nonneg gr with
        | false =>
          rw [hN] at cn
          simp [runF, showsEndlessFD, exec, ev, len_sq, cmpD, eqD_int, notR, hl, hl2, hSm, cm, hSn, cn, Fl.out]
        | true =>
          rw [hN] at cn
          have hlen : ∀ r ∈ rs, r.1.length = gr.length := fun r hr => by
            have := (Bool.and_eq_true_iff.mp hM).2
            have := List.all_eq_true.mp this r hr
            have := (Bool.and_eq_true_iff.mp this).1
            have : r.1.length = xs.length := by simpa using this
            omega
          have f1 := forL_any (f := fun d e => optF (bindT (.tp (.cons (.nm 4) (.cons (.nm 5) .nil))) d e) fun e' => exec S e' (showsEndless_b0 jb js jm jn)) (enc := rw1 u) (I := fun env => ∃ o1 o2, env = [some (sq w (g.map fr)), some (sq t (rs.map (rw1 u))), some (sq z (xs.map fr)), some (sq v (gr.map fr)), o1, o2]) (p := fun r => !(decide (dot r.1 gr ≤ 0))) (r := .bl false)
            rs [some (sq w (g.map fr)), some (sq t (rs.map (rw1 u))), some (sq z (xs.map fr)), some (sq v (gr.map fr)), none, none] ⟨none, none, rfl⟩ (by
              rintro r env hmm ⟨o1, o2, rfl⟩
              obtain ⟨z1, z2, z3⟩ := hr r hmm
              have b1 : (r.1.length + 1) * (k + q + 1) ≤ 51 * (k + q + 1) := Nat.mul_le_mul_right _ (by omega)
              have cs := hs u v r.1 gr k q z1 hq (hlen r hmm) (by omega) (by omega)
              have cb := hb 0 (dot r.1 gr) 1 _ sz0 (sz_dot z1 hq z3) (by omega)
              rw [fr0, dec_nlt] at cb
              by_cases hd : dot r.1 gr ≤ 0
              · simp [hd] at cb
                simp [hd, rw1, bindT, optF, showsEndless_b0, exec, ev, hSs, cs, hSb, cb]
              · simp [hd] at cb
                simp [hd, rw1, bindT, optF, showsEndless_b0, exec, ev, hSs, cs, hSb, cb])
          rw [any_not] at f1
          simp [runF, showsEndlessFD, exec, ev, len_sq, cmpD, eqD_int, notR, hl, hl2, hSm, cm, hSn, cn, val_sq]
          cases ha : (rs.all fun r => decide (dot r.1 gr ≤ 0)) with
          | false =>
            rw [ha] at f1
            simp only [Bool.not_false, if_true] at f1
            rw [f1]
            rfl
          | true =>
            rw [ha] at f1
            obtain ⟨e1, g1, o1, o2, g2⟩ := f1
            rw [g1, g2]
            have b1 : (g.length + 1) * (m + q + 1) ≤ 51 * (m + q + 1) := Nat.mul_le_mul_right _ (by omega)
            have cs := hs w v g gr m q hg hq hl2.symm (by omega) (by omega)
            have cb := hb 0 (dot g gr) 1 _ sz0 (sz_dot hg hq hgl) (by omega)
            rw [fr0] at cb
            simp [hSs, cs, hSb, cb, Fl.out]
    · have hl' : ((gr.length : Int) == (g.length : Int)) = false := by rw [beq_eq_false_iff_ne]; omega
      simp [runF, showsEndlessFD, exec, ev, len_sq, cmpD, eqD_int, notR, hl, hl2, hl', Fl.out]
  · have hl' : ((xs.length : Int) == (g.length : Int)) = false := by rw [beq_eq_false_iff_ne]; omega
    simp [runF, showsEndlessFD, exec, ev, len_sq, cmpD, eqD_int, notR, hl, hl', Fl.out]
theorem lawGrows_ok {js jn : Nat} (hP : P[j]? = some (lawGrowsFD js jn)) (h1 : js < j) (h2 : jn < j) (hs : ScalarOk P js) (hn : NonnegOk P jn) (t u v w : Bool) (g : List Rat) (rs : List Row) (gr : List Rat) (k m q : Nat) (hr : RSz k rs) (hg : VSz m g) (hq : VSz q gr) (hgl : g.length ≤ 50) (hql : gr.length ≤ 50) (hk2 : 1 + 52 * (k + q + 1) < 8990) (hk3 : 1 + 52 * (m + q + 1) < 8990)
    (hl : gr.length = g.length) (hf : ∀ r ∈ rs, r.1.length = g.length) : sem P j [sq w (g.map fr), sq t (rs.map (rw1 u)), sq v (gr.map fr)] = .ok (.bl (growS g rs gr)) := by
  rw [sem_eq P hP]
  generalize hS : (fun i => if i < j then sem P i else fun _ => R.bad) = S
  have hSs : S js = sem P js := by rw [← hS]; exact if_pos h1
  have hSn : S jn = sem P jn := by rw [← hS]; exact if_pos h2
  have cn := hn v gr q hq (by omega)
  unfold growS
  cases hN : nonneg gr with
  | false =>
    rw [hN] at cn
    simp [runF, lawGrowsFD, exec, ev, hSn, cn, Fl.out]
  | true =>
    rw [hN] at cn
    have f1 := forL_any (f := fun d e => optF (bindT (.nm 3) d e) fun e' => exec S e' (lawGrows_b0 js jn)) (enc := rw1 u) (I := fun env => ∃ o1, env = [some (sq w (g.map fr)), some (sq t (rs.map (rw1 u))), some (sq v (gr.map fr)), o1]) (p := fun r => !(decide (dot r.1 gr ≤ 0))) (r := .bl false)
      rs [some (sq w (g.map fr)), some (sq t (rs.map (rw1 u))), some (sq v (gr.map fr)), none] ⟨none, rfl⟩ (by
        rintro r env hmm ⟨o1, rfl⟩
        obtain ⟨z1, z2, z3⟩ := hr r hmm
        have b1 : (r.1.length + 1) * (k + q + 1) ≤ 51 * (k + q + 1) := Nat.mul_le_mul_right _ (by omega)
        have cs := hs u v r.1 gr k q z1 hq (by rw [hf r hmm, hl]) (by omega) (by omega)
        have a1 : ixD (rw1 u r) (.int 0) = .ok (sq u (r.1.map fr)) := rfl
        have a2 : ixD (fr (dot r.1 gr)) (.int 0) = .ok (.int (dot r.1 gr).num) := rfl
        by_cases hd : dot r.1 gr ≤ 0
        · have : ¬ 0 < (dot r.1 gr).num := fun z => (Rat.not_lt.mpr hd) (num_pos.mp z)
          simp [hd, bindT, optF, lawGrows_b0, exec, ev, a1, hSs, cs, a2, cmpD, cmpI, this]
        · have : 0 < (dot r.1 gr).num := num_pos.mpr (Rat.not_le.mp hd)
          simp [hd, bindT, optF, lawGrows_b0, exec, ev, a1, hSs, cs, a2, cmpD, cmpI, this])
    rw [any_not] at f1
    simp [runF, lawGrowsFD, exec, ev, hSn, cn, val_sq]
    cases ha : (rs.all fun r => decide (dot r.1 gr ≤ 0)) with
    | false =>
      rw [ha] at f1
      simp only [Bool.not_false, if_true] at f1
      rw [f1]
      rfl
    | true =>
      rw [ha] at f1
      obtain ⟨e1, g1, o1, g2⟩ := f1
      rw [g1, g2]
      have b1 : (g.length + 1) * (m + q + 1) ≤ 51 * (m + q + 1) := Nat.mul_le_mul_right _ (by omega)
      have cs := hs w v g gr m q hg hq hl.symm (by omega) (by omega)
      have a2 : ixD (fr (dot g gr)) (.int 0) = .ok (.int (dot g gr).num) := rfl
      simp [hSs, cs, a2, cmpD, cmpI, num_pos, Fl.out]
theorem isTruth_ok (hP : P[j]? = some lawIsTruthFD) (a b : Bool) : sem P j [.bl a, .bl b] = .ok (.bl (a == b)) := by
  rw [sem_eq P hP]
  cases a <;> cases b <;> rfl
end
end Pv

/-! printed by gen.py from the text of the law: its defs in the small language -/
namespace Pv.K01
open PySem PySem.Spec PyProof.Rows L2
def top (i : Nat) : Stmt := PySem.Challenge.pw_dealsformany_k01_line_papers_are_judged.main.body.getD i (.Pass ⟨0, 0, 0, 0⟩)
def f0b0 : IS := (.seq (.app 4 (.bin .mod (.blt .int (.cons (.vr 3) .nil)) (.vr 1))) (.seq (.set 3 .fz (.bin .fdiv (.vr 3) (.vr 1))) .skip))
def f0b1 : IS := (.seq (.set 3 .fz (.bin .mod (.blt .int (.cons (.bin .add (.bin .add (.bin .mul (.vr 3) (.ct (.int 48271))) (.bin .mul (.vr 5) (.ct (.int 69621)))) (.ct (.int 17))) .nil)) (.ct (.int 2147483647)))) (.seq (.set 3 .fz (.bin .mod (.blt .int (.cons (.bin .add (.bin .add (.bin .mul (.vr 3) (.ct (.int 16807))) (.bin .mul (.ct (.int 2)) (.vr 5))) (.ct (.int 5))) .nil)) (.ct (.int 2147483629)))) (.seq (.app 4 (.bin .mod (.blt .int (.cons (.bin .fdiv (.vr 3) (.ct (.int 64))) .nil)) (.vr 1))) .skip)))
def f0 : FD := ⟨3, 6, (.ol .fz), (.seq (.set 3 .fz (.blt .abs (.cons (.blt .int (.cons (.vr 0) .nil)) .nil))) (.seq (.set 4 (.ol .fz) (.ls .nil)) (.seq (.ite (.cmp .ge (.vr 3) (.bin .pow (.ct (.int 10)) (.ct (.int 18)))) (.seq (.for (.nm 5) (.it .rng (.cons (.vr 2) .nil)) f0b0) (.seq (.ret (.vr 4)) .skip)) .skip) (.seq (.for (.nm 5) (.it .rng (.cons (.vr 2) .nil)) f0b1) (.seq (.ret (.vr 4)) .skip)))))⟩
def d0 : DI := ⟨"_law_digits", top 23, ["cell", "base", "count"], ["cell", "base", "count", "rest", "digits", "k"], f0, []⟩
def f1w0 : IE := (.cmp .gt (.vr 3) (.ct (.int 0)))
def f1b0 : IS := (.seq (.set 4 .fz (.bin .sub (.vr 2) (.bin .mul (.bin .fdiv (.vr 2) (.vr 3)) (.vr 3)))) (.seq (.set 2 .fz (.vr 3)) (.seq (.set 3 .fz (.vr 4)) .skip)))
def f1 : FD := ⟨2, 5, .fz, (.seq (.set 2 .fz (.blt .abs (.cons (.vr 0) .nil))) (.seq (.set 3 .fz (.vr 1)) (.seq (.whl f1w0 f1b0) (.seq (.ret (.tp (.cons (.bin .fdiv (.vr 0) (.vr 2)) (.cons (.bin .fdiv (.vr 1) (.vr 2)) .nil)))) .skip))))⟩
def d1 : DI := ⟨"_law_lowest", top 24, ["n", "d"], ["n", "d", "a", "b", "c"], f1, []⟩
def f2 : FD := ⟨2, 2, .fz, (.seq (.ret (.call 1 (.cons (.bin .add (.bin .mul (.ix (.vr 0) (.ct (.int 0))) (.ix (.vr 1) (.ct (.int 1)))) (.bin .mul (.ix (.vr 1) (.ct (.int 0))) (.ix (.vr 0) (.ct (.int 1))))) (.cons (.bin .mul (.ix (.vr 0) (.ct (.int 1))) (.ix (.vr 1) (.ct (.int 1)))) .nil)))) .skip)⟩
def d2 : DI := ⟨"_law_plus", top 25, ["a", "b"], ["a", "b"], f2, []⟩
def f3 : FD := ⟨2, 2, .fz, (.seq (.ret (.call 1 (.cons (.bin .mul (.ix (.vr 0) (.ct (.int 0))) (.ix (.vr 1) (.ct (.int 0)))) (.cons (.bin .mul (.ix (.vr 0) (.ct (.int 1))) (.ix (.vr 1) (.ct (.int 1)))) .nil)))) .skip)⟩
def d3 : DI := ⟨"_law_times", top 27, ["a", "b"], ["a", "b"], f3, []⟩
def f4b0 : IS := (.seq (.set 2 .fz (.call 2 (.cons (.vr 2) (.cons (.call 3 (.cons (.ix (.vr 0) (.vr 3)) (.cons (.ix (.vr 1) (.vr 3)) .nil))) .nil)))) .skip)
def f4 : FD := ⟨2, 4, .fz, (.seq (.set 2 .fz (.tp (.cons (.ct (.int 0)) (.cons (.ct (.int 1)) .nil)))) (.seq (.for (.nm 3) (.it .rng (.cons (.blt .len (.cons (.vr 0) .nil)) .nil)) f4b0) (.seq (.ret (.vr 2)) .skip)))⟩
def d4 : DI := ⟨"_law_scalar", top 30, ["one", "other"], ["one", "other", "told", "k"], f4, []⟩
def f5e0 : IE := (.tp (.cons (.ct (.int 0)) (.cons (.ct (.int 1)) .nil)))
def f5e1 : IE := (.call 2 (.cons (.ix (.vr 3) (.vr 6)) (.cons (.call 3 (.cons (.ix (.vr 2) (.vr 5)) (.cons (.ix (.ix (.ix (.vr 1) (.vr 5)) (.ct (.int 0))) (.vr 6)) .nil))) .nil)))
def f5b0 : IS := (.seq (.set 3 (.ol .fz) (.lc f5e1 (.nm 6) (.it .rng (.cons (.vr 0) .nil)) .nil)) (.seq (.set 4 .fz (.call 2 (.cons (.vr 4) (.cons (.call 3 (.cons (.ix (.vr 2) (.vr 5)) (.cons (.ix (.ix (.vr 1) (.vr 5)) (.ct (.int 1))) .nil))) .nil)))) .skip))
def f5 : FD := ⟨3, 7, (.ot [(.ol .fz), .fz]), (.seq (.set 3 (.ol .fz) (.lc f5e0 (.nm 5) (.it .rng (.cons (.vr 0) .nil)) .nil)) (.seq (.set 4 .fz (.tp (.cons (.ct (.int 0)) (.cons (.ct (.int 1)) .nil)))) (.seq (.for (.nm 5) (.it .rng (.cons (.blt .len (.cons (.vr 1) .nil)) .nil)) f5b0) (.seq (.ret (.tp (.cons (.vr 3) (.cons (.vr 4) .nil)))) .skip))))⟩
def d5 : DI := ⟨"_law_summed", top 33, ["count", "rows", "weights"], ["count", "rows", "weights", "sums", "bound", "k", "j"], f5, []⟩
def f6 : FD := ⟨2, 2, .fz, (.seq (.ret (.call 1 (.cons (.bin .sub (.bin .mul (.ix (.vr 0) (.ct (.int 0))) (.ix (.vr 1) (.ct (.int 1)))) (.bin .mul (.ix (.vr 1) (.ct (.int 0))) (.ix (.vr 0) (.ct (.int 1))))) (.cons (.bin .mul (.ix (.vr 0) (.ct (.int 1))) (.ix (.vr 1) (.ct (.int 1)))) .nil)))) .skip)⟩
def d6 : DI := ⟨"_law_minus", top 26, ["a", "b"], ["a", "b"], f6, []⟩
def f7e0 : IE := (.call 1 (.cons (.blt .max (.cons (.ct (.int 0)) (.cons (.bin .sub (.bin .mod (.blt .int (.cons (.ix (.vr 1) (.bin .add (.ct (.int 3)) (.vr 10))) .nil)) (.ct (.int 6))) (.ct (.int 1))) .nil))) (.cons (.vr 4) .nil)))
def f7e1 : IE := (.call 1 (.cons (.blt .max (.cons (.ct (.int 0)) (.cons (.bin .sub (.bin .mod (.blt .int (.cons (.ix (.vr 1) (.bin .add (.ct (.int 8)) (.vr 8))) .nil)) (.ct (.int 5))) (.ct (.int 1))) .nil))) (.cons (.vr 4) .nil)))
def f7e2 : IE := (.call 1 (.cons (.bin .sub (.bin .mod (.blt .int (.cons (.ix (.vr 1) (.bin .add (.bin .add (.ct (.int 14)) (.bin .mul (.ct (.int 5)) (.vr 8))) (.vr 10))) .nil)) (.ct (.int 7))) (.ct (.int 3))) (.cons (.vr 4) .nil)))
def f7b0 : IS := (.seq (.set 11 .fz (.lc f7e2 (.nm 10) (.it .rng (.cons (.vr 2) .nil)) .nil)) (.seq (.set 12 .fz (.call 4 (.cons (.vr 11) (.cons (.vr 5) .nil)))) (.seq (.ite (.cmp .eq (.ix (.ix (.vr 6) (.vr 8)) (.ct (.int 0))) (.ct (.int 0))) (.seq (.set 12 .fz (.call 2 (.cons (.vr 12) (.cons (.tp (.cons (.bin .mod (.blt .int (.cons (.ix (.vr 1) (.bin .add (.ct (.int 18)) (.bin .mul (.ct (.int 5)) (.vr 8)))) .nil)) (.ct (.int 3))) (.cons (.ct (.int 1)) .nil))) .nil)))) .skip) .skip) (.seq (.app 7 (.tp (.cons (.blt .tuple (.cons (.vr 11) .nil)) (.cons (.vr 12) .nil)))) .skip))))
def f7b1 : IS := (.seq (.ite (.cmp .eq (.ix (.ix (.vr 5) (.vr 10)) (.ct (.int 0))) (.ct (.int 0))) (.seq (.sub 9 (.vr 10) (.call 6 (.cons (.ix (.vr 9) (.vr 10)) (.cons (.tp (.cons (.bin .mod (.blt .int (.cons (.ix (.vr 1) (.bin .add (.ct (.int 40)) (.vr 10))) .nil)) (.ct (.int 3))) (.cons (.ct (.int 1)) .nil))) .nil)))) .skip) .skip) .skip)
def f7 : FD := ⟨1, 13, (.ot [(.ol .fz), .fz, .fz, .fz]), (.seq (.set 1 .fz (.call 0 (.cons (.vr 0) (.cons (.ct (.int 60)) (.cons (.ct (.int 60)) .nil))))) (.seq (.set 2 .fz (.bin .add (.ct (.int 1)) (.bin .mod (.blt .int (.cons (.ix (.vr 1) (.ct (.int 0))) .nil)) (.ct (.int 4))))) (.seq (.set 3 .fz (.bin .add (.ct (.int 1)) (.bin .mod (.blt .int (.cons (.ix (.vr 1) (.ct (.int 1))) .nil)) (.ct (.int 5))))) (.seq (.set 4 .fz (.bin .add (.ct (.int 1)) (.bin .mod (.blt .int (.cons (.ix (.vr 1) (.ct (.int 2))) .nil)) (.ct (.int 3))))) (.seq (.set 5 (.ol .fz) (.lc f7e0 (.nm 10) (.it .rng (.cons (.vr 2) .nil)) .nil)) (.seq (.set 6 (.ol .fz) (.lc f7e1 (.nm 8) (.it .rng (.cons (.vr 3) .nil)) .nil)) (.seq (.set 7 (.ol .fz) (.ls .nil)) (.seq (.frz 5) (.seq (.for (.nm 8) (.it .rng (.cons (.vr 3) .nil)) f7b0) (.seq (.frz 7) (.seq (.frz 6) (.seq (.set 9 (.ol .fz) (.ix (.call 5 (.cons (.vr 2) (.cons (.vr 7) (.cons (.vr 6) .nil)))) (.ct (.int 0)))) (.seq (.for (.nm 10) (.it .rng (.cons (.vr 2) .nil)) f7b1) (.seq (.ret (.tp (.cons (.vr 9) (.cons (.vr 7) (.cons (.vr 5) (.cons (.vr 6) .nil)))))) .skip))))))))))))))⟩
def d7 : DI := ⟨"_law_papers", top 38, ["cell"], ["cell", "row", "many", "count", "bottom", "numbers", "weights", "rows", "i", "goal", "j", "marks", "bound"], f7, []⟩
def f8e0 : IE := (.call 1 (.cons (.bin .sub (.bin .mod (.blt .int (.cons (.ix (.vr 1) (.bin .add (.ct (.int 4)) (.vr 9))) .nil)) (.ct (.int 9))) (.ct (.int 3))) (.cons (.vr 3) .nil)))
def f8e1 : IE := (.call 1 (.cons (.bin .sub (.bin .mod (.blt .int (.cons (.ix (.vr 1) (.bin .add (.bin .add (.ct (.int 10)) (.bin .mul (.ct (.int 6)) (.vr 7))) (.vr 9))) .nil)) (.ct (.int 7))) (.vr 4)) (.cons (.vr 3) .nil)))
def f8b0 : IS := (.seq (.set 8 .fz (.lc f8e1 (.nm 9) (.it .rng (.cons (.vr 2) .nil)) .nil)) (.seq (.app 6 (.tp (.cons (.blt .tuple (.cons (.vr 8) .nil)) (.cons (.call 1 (.cons (.bin .sub (.bin .mod (.blt .int (.cons (.ix (.vr 1) (.bin .add (.ct (.int 15)) (.bin .mul (.ct (.int 6)) (.vr 7)))) .nil)) (.ct (.int 13))) (.vr 4)) (.cons (.bin .add (.ct (.int 1)) (.bin .mod (.blt .int (.cons (.ix (.vr 1) (.ct (.int 9))) .nil)) (.ct (.int 2)))) .nil))) .nil)))) .skip))
def f8 : FD := ⟨1, 10, (.ot [(.ol .fz), (.ol .fz)]), (.seq (.set 1 .fz (.call 0 (.cons (.vr 0) (.cons (.ct (.int 60)) (.cons (.ct (.int 60)) .nil))))) (.seq (.set 2 .fz (.bin .add (.ct (.int 1)) (.bin .mod (.blt .int (.cons (.ix (.vr 1) (.ct (.int 0))) .nil)) (.ct (.int 4))))) (.seq (.set 3 .fz (.bin .add (.ct (.int 1)) (.bin .mod (.blt .int (.cons (.ix (.vr 1) (.ct (.int 2))) .nil)) (.ct (.int 3))))) (.seq (.set 4 .fz (.bin .mod (.blt .int (.cons (.ix (.vr 1) (.ct (.int 3))) .nil)) (.ct (.int 5)))) (.seq (.set 5 (.ol .fz) (.lc f8e0 (.nm 9) (.it .rng (.cons (.vr 2) .nil)) .nil)) (.seq (.set 6 (.ol .fz) (.ls .nil)) (.seq (.for (.nm 7) (.it .rng (.cons (.bin .mod (.blt .int (.cons (.ix (.vr 1) (.ct (.int 1))) .nil)) (.ct (.int 7))) .nil)) f8b0) (.seq (.ret (.tp (.cons (.vr 5) (.cons (.vr 6) .nil)))) .skip))))))))⟩
def d8 : DI := ⟨"_law_lines", top 37, ["cell"], ["cell", "row", "many", "bottom", "low", "goal", "rows", "i", "marks", "j"], f8, []⟩
def f9b0 : IS := (.seq (.ite (.cmp .lt (.ix (.vr 1) (.ct (.int 0))) (.ct (.int 0))) (.seq (.ret (.ct (.bl false))) .skip) .skip) .skip)
def f9 : FD := ⟨1, 2, .fz, (.seq (.for (.nm 1) (.it .val (.cons (.vr 0) .nil)) f9b0) (.seq (.ret (.ct (.bl true))) .skip))⟩
def d9 : DI := ⟨"_law_no_less", top 31, ["numbers"], ["numbers", "number"], f9, []⟩
def f10 : FD := ⟨2, 2, .fz, (.seq (.ret (.cmp .lt (.bin .mul (.ix (.vr 0) (.ct (.int 0))) (.ix (.vr 1) (.ct (.int 1)))) (.bin .mul (.ix (.vr 1) (.ct (.int 0))) (.ix (.vr 0) (.ct (.int 1)))))) .skip)⟩
def d10 : DI := ⟨"_law_less", top 28, ["a", "b"], ["a", "b"], f10, []⟩
def f11b0 : IS := (.seq (.ite (.call 10 (.cons (.ix (.vr 2) (.ct (.int 1))) (.cons (.call 4 (.cons (.ix (.vr 2) (.ct (.int 0))) (.cons (.vr 1) .nil))) .nil))) (.seq (.ret (.ct (.bl false))) .skip) .skip) .skip)
def f11 : FD := ⟨2, 3, .fz, (.seq (.ite (.not (.call 9 (.cons (.vr 1) .nil))) (.seq (.ret (.ct (.bl false))) .skip) .skip) (.seq (.for (.nm 2) (.it .val (.cons (.vr 0) .nil)) f11b0) (.seq (.ret (.ct (.bl true))) .skip)))⟩
def d11 : DI := ⟨"_law_meets", top 32, ["rows", "numbers"], ["rows", "numbers", "row"], f11, []⟩
def f12b0 : IS := (.seq (.ite (.call 10 (.cons (.ix (.ix (.vr 4) (.ct (.int 0))) (.vr 5)) (.cons (.ix (.vr 0) (.vr 5)) .nil))) (.seq (.ret (.ct (.bl false))) .skip) .skip) .skip)
def f12 : FD := ⟨4, 6, .fz, (.seq (.ite (.not (.call 9 (.cons (.vr 2) .nil))) (.seq (.ret (.ct (.bl false))) .skip) .skip) (.seq (.set 4 .fz (.call 5 (.cons (.blt .len (.cons (.vr 0) .nil)) (.cons (.vr 1) (.cons (.vr 2) .nil))))) (.seq (.for (.nm 5) (.it .rng (.cons (.blt .len (.cons (.vr 0) .nil)) .nil)) f12b0) (.seq (.ret (.not (.call 10 (.cons (.vr 3) (.cons (.ix (.vr 4) (.ct (.int 1))) .nil))))) .skip))))⟩
def d12 : DI := ⟨"_law_bounds_goal", top 34, ["goal", "rows", "weights", "value"], ["goal", "rows", "weights", "value", "both", "k"], f12, []⟩
def f13 : FD := ⟨2, 2, .fz, (.seq (.ret (.and (.blt .isBool (.cons (.vr 0) .nil)) (.cmp .eq (.vr 0) (.vr 1)))) .skip)⟩
def d13 : DI := ⟨"_law_is_truth", top 29, ["value", "due"], ["value", "due"], f13, []⟩
def f14 : FD := ⟨2, 2, .fz, (.seq (.ret (.cmp .lt (.bin .mul (.ix (.vr 0) (.ct (.int 0))) (.ix (.vr 1) (.ct (.int 1)))) (.bin .mul (.ix (.vr 1) (.ct (.int 0))) (.ix (.vr 0) (.ct (.int 1)))))) .skip)⟩
def d14 : DI := ⟨"below", top 9, ["a", "b"], ["a", "b"], f14, []⟩
def f15b0 : IS := (.seq (.ite (.call 14 (.cons (.vr 1) (.cons (.gl "ZERO" (.tup [(.int 0), (.int 1)])) .nil))) (.seq (.ret (.ct (.bl false))) .skip) .skip) .skip)
def f15 : FD := ⟨1, 2, .fz, (.seq (.for (.nm 1) (.it .val (.cons (.vr 0) .nil)) f15b0) (.seq (.ret (.ct (.bl true))) .skip))⟩
def d15 : DI := ⟨"none_below", top 14, ["numbers"], ["numbers", "number"], f15, []⟩
def f16 : FD := ⟨2, 3, .fz, (.seq (.ite (.cmp .eq (.vr 1) (.ct (.int 0))) (.seq .never .skip) .skip) (.seq (.set 2 .fz (.blt .gcd (.cons (.vr 0) (.cons (.vr 1) .nil)))) (.seq (.ite (.cmp .lt (.vr 1) (.ct (.int 0))) (.seq (.set 2 .fz (.neg (.vr 2))) .skip) .skip) (.seq (.ret (.tp (.cons (.bin .fdiv (.vr 0) (.vr 2)) (.cons (.bin .fdiv (.vr 1) (.vr 2)) .nil)))) .skip))))⟩
def d16 : DI := ⟨"frac", top 6, ["n", "d"], ["n", "d", "shared"], f16, [(.int 1)]⟩
def f17 : FD := ⟨2, 2, .fz, (.seq (.ret (.call 16 (.cons (.bin .add (.bin .mul (.ix (.vr 0) (.ct (.int 0))) (.ix (.vr 1) (.ct (.int 1)))) (.bin .mul (.ix (.vr 1) (.ct (.int 0))) (.ix (.vr 0) (.ct (.int 1))))) (.cons (.bin .mul (.ix (.vr 0) (.ct (.int 1))) (.ix (.vr 1) (.ct (.int 1)))) .nil)))) .skip)⟩
def d17 : DI := ⟨"plus", top 7, ["a", "b"], ["a", "b"], f17, []⟩
def f18b0 : IS := (.seq (.set 1 .fz (.call 17 (.cons (.vr 1) (.cons (.vr 2) .nil)))) .skip)
def f18 : FD := ⟨1, 3, .fz, (.seq (.set 1 .fz (.gl "ZERO" (.tup [(.int 0), (.int 1)]))) (.seq (.for (.nm 2) (.it .val (.cons (.vr 0) .nil)) f18b0) (.seq (.ret (.vr 1)) .skip)))⟩
def d18 : DI := ⟨"total", top 11, ["numbers"], ["numbers", "result", "number"], f18, []⟩
def f19 : FD := ⟨2, 2, .fz, (.seq (.ret (.call 16 (.cons (.bin .mul (.ix (.vr 0) (.ct (.int 0))) (.ix (.vr 1) (.ct (.int 0)))) (.cons (.bin .mul (.ix (.vr 0) (.ct (.int 1))) (.ix (.vr 1) (.ct (.int 1)))) .nil)))) .skip)⟩
def d19 : DI := ⟨"times", top 8, ["a", "b"], ["a", "b"], f19, []⟩
def f20e0 : IE := (.call 19 (.cons (.vr 2) (.cons (.vr 3) .nil)))
def f20 : FD := ⟨2, 4, .fz, (.seq (.ret (.call 18 (.cons (.lc f20e0 (.tp (.cons (.nm 2) (.cons (.nm 3) .nil))) (.it .zip (.cons (.vr 0) (.cons (.vr 1) .nil))) .nil) .nil))) .skip)⟩
def d20 : DI := ⟨"scalar", top 13, ["one", "other"], ["one", "other", "a", "b"], f20, []⟩
def f21b0 : IS := (.seq (.ite (.or (.cmp .ne (.blt .len (.cons (.vr 2) .nil)) (.blt .len (.cons (.vr 1) .nil))) (.call 14 (.cons (.vr 3) (.cons (.call 20 (.cons (.vr 2) (.cons (.vr 1) .nil))) .nil)))) (.seq (.ret (.ct (.bl false))) .skip) .skip) .skip)
def f21 : FD := ⟨2, 4, .fz, (.seq (.ite (.not (.call 15 (.cons (.vr 1) .nil))) (.seq (.ret (.ct (.bl false))) .skip) .skip) (.seq (.for (.tp (.cons (.nm 2) (.cons (.nm 3) .nil))) (.it .val (.cons (.vr 0) .nil)) f21b0) (.seq (.ret (.ct (.bl true))) .skip)))⟩
def d21 : DI := ⟨"meets", top 15, ["rows", "numbers"], ["rows", "numbers", "coefficients", "bound"], f21, []⟩
def f22e0 : IE := (.gl "ZERO" (.tup [(.int 0), (.int 1)]))
def f22e1 : IE := (.call 17 (.cons (.vr 9) (.cons (.call 19 (.cons (.vr 7) (.cons (.vr 10) .nil))) .nil)))
def f22b0 : IS := (.seq (.set 3 .fz (.lc f22e1 (.tp (.cons (.nm 9) (.cons (.nm 10) .nil))) (.it .zip (.cons (.vr 3) (.cons (.vr 5) .nil))) .nil)) (.seq (.set 4 .fz (.call 17 (.cons (.vr 4) (.cons (.call 19 (.cons (.vr 7) (.cons (.vr 6) .nil))) .nil)))) .skip))
def f22 : FD := ⟨3, 11, .fz, (.seq (.set 3 .fz (.lc f22e0 (.nm 8) (.it .rng (.cons (.vr 0) .nil)) .nil)) (.seq (.set 4 .fz (.gl "ZERO" (.tup [(.int 0), (.int 1)]))) (.seq (.for (.tp (.cons (.tp (.cons (.nm 5) (.cons (.nm 6) .nil))) (.cons (.nm 7) .nil))) (.it .zip (.cons (.vr 1) (.cons (.vr 2) .nil))) f22b0) (.seq (.ret (.tp (.cons (.blt .tuple (.cons (.vr 3) .nil)) (.cons (.vr 4) .nil)))) .skip))))⟩
def d22 : DI := ⟨"combined", top 16, ["count", "rows", "weights"], ["count", "rows", "weights", "sums", "bound", "coefficients", "limit", "weight", "_", "one", "other"], f22, []⟩
def f23 : FD := ⟨2, 2, .fz, (.seq (.ret (.cmp .le (.bin .mul (.ix (.vr 0) (.ct (.int 0))) (.ix (.vr 1) (.ct (.int 1)))) (.bin .mul (.ix (.vr 1) (.ct (.int 0))) (.ix (.vr 0) (.ct (.int 1)))))) .skip)⟩
def d23 : DI := ⟨"at_most", top 10, ["a", "b"], ["a", "b"], f23, []⟩
def f24b0 : IS := (.seq (.ite (.cmp .ne (.blt .len (.cons (.ix (.vr 4) (.ct (.int 0))) .nil)) (.blt .len (.cons (.vr 0) .nil))) (.seq (.ret (.ct (.bl false))) .skip) .skip) .skip)
def f24b1 : IS := (.seq (.ite (.call 14 (.cons (.vr 8) (.cons (.vr 7) .nil))) (.seq (.ret (.ct (.bl false))) .skip) .skip) .skip)
def f24 : FD := ⟨4, 9, .fz, (.seq (.ite (.or (.cmp .ne (.blt .len (.cons (.vr 2) .nil)) (.blt .len (.cons (.vr 1) .nil))) (.not (.call 15 (.cons (.vr 2) .nil)))) (.seq (.ret (.ct (.bl false))) .skip) .skip) (.seq (.for (.nm 4) (.it .val (.cons (.vr 1) .nil)) f24b0) (.seq (.asg (.tp (.cons (.nm 5) (.cons (.nm 6) .nil))) (.call 22 (.cons (.blt .len (.cons (.vr 0) .nil)) (.cons (.vr 1) (.cons (.vr 2) .nil))))) (.seq (.for (.tp (.cons (.nm 7) (.cons (.nm 8) .nil))) (.it .zip (.cons (.vr 0) (.cons (.vr 5) .nil))) f24b1) (.seq (.ret (.call 23 (.cons (.vr 6) (.cons (.vr 3) .nil)))) .skip)))))⟩
def d24 : DI := ⟨"shows_bound", top 18, ["goal", "rows", "weights", "value"], ["goal", "rows", "weights", "value", "row", "sums", "bound", "one", "other"], f24, []⟩
def f25 : FD := ⟨4, 4, .fz, (.seq (.ite (.or (.cmp .ne (.blt .len (.cons (.vr 2) .nil)) (.blt .len (.cons (.vr 0) .nil))) (.not (.call 21 (.cons (.vr 1) (.cons (.vr 2) .nil))))) (.seq (.ret (.ct (.bl false))) .skip) .skip) (.seq (.ret (.call 24 (.cons (.vr 0) (.cons (.vr 1) (.cons (.vr 3) (.cons (.call 20 (.cons (.vr 0) (.cons (.vr 2) .nil))) .nil)))))) .skip))⟩
def d25 : DI := ⟨"shows_most", top 19, ["goal", "rows", "numbers", "weights"], ["goal", "rows", "numbers", "weights"], f25, []⟩
def f26b0 : IS := (.seq (.ite (.cmp .ne (.blt .len (.cons (.ix (.vr 2) (.ct (.int 0))) .nil)) (.blt .len (.cons (.ix (.ix (.vr 0) (.ct (.int 0))) (.ct (.int 0))) .nil))) (.seq (.ret (.ct (.bl false))) .skip) .skip) .skip)
def f26 : FD := ⟨2, 5, .fz, (.seq (.ite (.or (.cmp .ne (.blt .len (.cons (.vr 1) .nil)) (.blt .len (.cons (.vr 0) .nil))) (.not (.call 15 (.cons (.vr 1) .nil)))) (.seq (.ret (.ct (.bl false))) .skip) .skip) (.seq (.for (.nm 2) (.it .val (.cons (.vr 0) .nil)) f26b0) (.seq (.ite (.cmp .eq (.blt .len (.cons (.vr 0) .nil)) (.ct (.int 0))) (.seq (.ret (.ct (.bl false))) .skip) .skip) (.seq (.asg (.tp (.cons (.nm 3) (.cons (.nm 4) .nil))) (.call 22 (.cons (.blt .len (.cons (.ix (.ix (.vr 0) (.ct (.int 0))) (.ct (.int 0))) .nil)) (.cons (.vr 0) (.cons (.vr 1) .nil))))) (.seq (.ret (.and (.call 15 (.cons (.vr 3) .nil)) (.call 14 (.cons (.vr 4) (.cons (.gl "ZERO" (.tup [(.int 0), (.int 1)])) .nil))))) .skip)))))⟩
def d26 : DI := ⟨"shows_bar", top 17, ["rows", "weights"], ["rows", "weights", "row", "sums", "bound"], f26, []⟩
def f27 : FD := ⟨3, 4, .fz, (.seq (.ite (.or (.cmp .eq (.vr 1) (.ls .nil)) (.not (.call 9 (.cons (.vr 2) .nil)))) (.seq (.ret (.ct (.bl false))) .skip) .skip) (.seq (.set 3 .fz (.call 5 (.cons (.vr 0) (.cons (.vr 1) (.cons (.vr 2) .nil))))) (.seq (.ret (.and (.call 9 (.cons (.ix (.vr 3) (.ct (.int 0))) .nil)) (.cmp .lt (.ix (.ix (.vr 3) (.ct (.int 1))) (.ct (.int 0))) (.ct (.int 0))))) .skip)))⟩
def d27 : DI := ⟨"_law_bars", top 35, ["count", "rows", "weights"], ["count", "rows", "weights", "both"], f27, []⟩
def f28b0 : IS := (.seq (.ite (.cmp .gt (.ix (.call 4 (.cons (.ix (.vr 3) (.ct (.int 0))) (.cons (.vr 2) .nil))) (.ct (.int 0))) (.ct (.int 0))) (.seq (.ret (.ct (.bl false))) .skip) .skip) .skip)
def f28 : FD := ⟨3, 4, .fz, (.seq (.ite (.not (.call 9 (.cons (.vr 2) .nil))) (.seq (.ret (.ct (.bl false))) .skip) .skip) (.seq (.for (.nm 3) (.it .val (.cons (.vr 1) .nil)) f28b0) (.seq (.ret (.cmp .gt (.ix (.call 4 (.cons (.vr 0) (.cons (.vr 2) .nil))) (.ct (.int 0))) (.ct (.int 0)))) .skip)))⟩
def d28 : DI := ⟨"_law_grows", top 36, ["goal", "rows", "growth"], ["goal", "rows", "growth", "row"], f28, []⟩
def f29b0 : IS := (.seq (.ite (.call 14 (.cons (.gl "ZERO" (.tup [(.int 0), (.int 1)])) (.cons (.call 20 (.cons (.vr 4) (.cons (.vr 3) .nil))) .nil))) (.seq (.ret (.ct (.bl false))) .skip) .skip) .skip)
def f29 : FD := ⟨4, 6, .fz, (.seq (.ite (.or (.cmp .ne (.blt .len (.cons (.vr 2) .nil)) (.blt .len (.cons (.vr 0) .nil))) (.or (.cmp .ne (.blt .len (.cons (.vr 3) .nil)) (.blt .len (.cons (.vr 0) .nil))) (.not (.call 21 (.cons (.vr 1) (.cons (.vr 2) .nil)))))) (.seq (.ret (.ct (.bl false))) .skip) .skip) (.seq (.ite (.not (.call 15 (.cons (.vr 3) .nil))) (.seq (.ret (.ct (.bl false))) .skip) .skip) (.seq (.for (.tp (.cons (.nm 4) (.cons (.nm 5) .nil))) (.it .val (.cons (.vr 1) .nil)) f29b0) (.seq (.ret (.call 14 (.cons (.gl "ZERO" (.tup [(.int 0), (.int 1)])) (.cons (.call 20 (.cons (.vr 0) (.cons (.vr 3) .nil))) .nil)))) .skip))))⟩
def d29 : DI := ⟨"shows_endless", top 20, ["goal", "rows", "numbers", "growth"], ["goal", "rows", "numbers", "growth", "coefficients", "_"], f29, []⟩
def f30e0 : IE := (.tp (.cons (.ct (.int 1)) (.cons (.ct (.int 1)) .nil)))
def f30b0 : IS := (.seq (.set 10 .fz (.and (.vr 5) (.call 28 (.cons (.vr 0) (.cons (.vr 1) (.cons (.vr 9) .nil)))))) (.seq (.ite (.not (.call 13 (.cons (.call 29 (.cons (.blt .list (.cons (.vr 0) .nil)) (.cons (.blt .list (.cons (.vr 1) .nil)) (.cons (.blt .list (.cons (.vr 2) .nil)) (.cons (.vr 9) .nil))))) (.cons (.vr 10) .nil)))) (.seq (.ret (.ct (.bl false))) .skip) .skip) .skip))
def f30 : FD := ⟨5, 12, .fz, (.seq (.set 5 .fz (.call 11 (.cons (.vr 1) (.cons (.vr 2) .nil)))) (.seq (.set 6 .fz (.call 12 (.cons (.vr 0) (.cons (.vr 1) (.cons (.vr 3) (.cons (.vr 4) .nil)))))) (.seq (.set 7 .fz (.call 4 (.cons (.vr 0) (.cons (.vr 2) .nil)))) (.seq (.set 8 .fz (.and (.vr 5) (.call 12 (.cons (.vr 0) (.cons (.vr 1) (.cons (.vr 3) (.cons (.vr 7) .nil))))))) (.seq (.ite (.not (.call 13 (.cons (.call 21 (.cons (.blt .list (.cons (.vr 1) .nil)) (.cons (.blt .list (.cons (.vr 2) .nil)) .nil))) (.cons (.vr 5) .nil)))) (.seq (.ret (.ct (.bl false))) .skip) .skip) (.seq (.ite (.not (.call 13 (.cons (.call 24 (.cons (.blt .list (.cons (.vr 0) .nil)) (.cons (.blt .list (.cons (.vr 1) .nil)) (.cons (.blt .list (.cons (.vr 3) .nil)) (.cons (.vr 4) .nil))))) (.cons (.vr 6) .nil)))) (.seq (.ret (.ct (.bl false))) .skip) .skip) (.seq (.ite (.not (.call 13 (.cons (.call 25 (.cons (.blt .list (.cons (.vr 0) .nil)) (.cons (.blt .list (.cons (.vr 1) .nil)) (.cons (.blt .list (.cons (.vr 2) .nil)) (.cons (.blt .list (.cons (.vr 3) .nil)) .nil))))) (.cons (.vr 8) .nil)))) (.seq (.ret (.ct (.bl false))) .skip) .skip) (.seq (.ite (.not (.call 13 (.cons (.call 26 (.cons (.blt .list (.cons (.vr 1) .nil)) (.cons (.blt .list (.cons (.vr 3) .nil)) .nil))) (.cons (.call 27 (.cons (.blt .len (.cons (.vr 0) .nil)) (.cons (.vr 1) (.cons (.vr 3) .nil)))) .nil)))) (.seq (.ret (.ct (.bl false))) .skip) .skip) (.seq (.for (.nm 9) (.it .val (.cons (.ls (.cons (.vr 2) (.cons (.vr 0) (.cons (.lc f30e0 (.nm 11) (.it .val (.cons (.vr 0) .nil)) .nil) .nil)))) .nil)) f30b0) (.seq (.ret (.ct (.bl true))) .skip))))))))))⟩
def d30 : DI := ⟨"_law_asked", top 40, ["goal", "rows", "numbers", "weights", "value"], ["goal", "rows", "numbers", "weights", "value", "fits", "bound", "here", "best", "growth", "due", "one"], f30, []⟩
def f31 : FD := ⟨2, 2, .fz, (.seq (.ite (.cmp .lt (.vr 1) (.blt .len (.cons (.vr 0) .nil))) (.seq (.ret (.ix (.vr 0) (.vr 1))) .skip) .skip) (.seq (.ret (.ct (.int 0))) .skip))⟩
def d31 : DI := ⟨"_law_cell", top 22, ["script", "k"], ["script", "k"], f31, []⟩
def f32e0 : IE := (.tp (.cons (.ct (.int 1)) (.cons (.ct (.int 1)) .nil)))
def f32 : FD := ⟨4, 5, .fz, (.seq (.ite (.or (.call 25 (.cons (.vr 0) (.cons (.vr 1) (.cons (.slF (.vr 2) (.ct (.int 1))) (.cons (.vr 3) .nil))))) (.call 25 (.cons (.vr 0) (.cons (.vr 1) (.cons (.vr 2) (.cons (.slF (.vr 3) (.ct (.int 1))) .nil)))))) (.seq (.ret (.ct (.bl false))) .skip) .skip) (.seq (.ite (.or (.call 25 (.cons (.vr 0) (.cons (.vr 1) (.cons (.bin .add (.vr 2) (.ls (.cons (.tp (.cons (.ct (.int 0)) (.cons (.ct (.int 1)) .nil))) .nil))) (.cons (.vr 3) .nil))))) (.call 25 (.cons (.vr 0) (.cons (.vr 1) (.cons (.vr 2) (.cons (.bin .add (.vr 3) (.ls (.cons (.tp (.cons (.ct (.int 0)) (.cons (.ct (.int 1)) .nil))) .nil))) .nil)))))) (.seq (.ret (.ct (.bl false))) .skip) .skip) (.seq (.ite (.or (.call 24 (.cons (.vr 0) (.cons (.vr 1) (.cons (.bin .add (.vr 3) (.ls (.cons (.tp (.cons (.ct (.int 0)) (.cons (.ct (.int 1)) .nil))) .nil))) (.cons (.tp (.cons (.ct (.int 99)) (.cons (.ct (.int 1)) .nil))) .nil))))) (.call 26 (.cons (.vr 1) (.cons (.bin .add (.vr 3) (.ls (.cons (.tp (.cons (.ct (.int 0)) (.cons (.ct (.int 1)) .nil))) .nil))) .nil)))) (.seq (.ret (.ct (.bl false))) .skip) .skip) (.seq (.ite (.call 29 (.cons (.vr 0) (.cons (.vr 1) (.cons (.vr 2) (.cons (.bin .add (.lc f32e0 (.nm 4) (.it .val (.cons (.vr 0) .nil)) .nil) (.ls (.cons (.tp (.cons (.ct (.int 0)) (.cons (.ct (.int 1)) .nil))) .nil))) .nil))))) (.seq (.ret (.ct (.bl false))) .skip) .skip) (.seq (.ret (.and (.not (.call 26 (.cons (.ls .nil) (.cons (.ls .nil) .nil)))) (.call 13 (.cons (.call 21 (.cons (.vr 1) (.cons (.bin .add (.vr 2) (.ls (.cons (.tp (.cons (.ct (.int 0)) (.cons (.ct (.int 1)) .nil))) .nil))) .nil))) (.cons (.ct (.bl false)) .nil))))) .skip)))))⟩
def d32 : DI := ⟨"_law_short_ones", top 41, ["goal", "rows", "numbers", "weights"], ["goal", "rows", "numbers", "weights", "one"], f32, []⟩
def f33b0 : IS := (.seq (.ite (.not (.call 13 (.cons (.vr 1) (.cons (.ct (.bl false)) .nil)))) (.seq (.ret (.ct (.bl false))) .skip) .skip) .skip)
def f33 : FD := ⟨1, 2, .fz, (.seq (.for (.nm 1) (.it .val (.cons (.vr 0) .nil)) f33b0) (.seq (.ret (.ct (.bl true))) .skip))⟩
def d33 : DI := ⟨"_law_all_false", top 42, ["told"], ["told", "one"], f33, []⟩
def f34e0 : IE := (.tp (.cons (.bin .add (.ix (.vr 11) (.ct (.int 0))) (.tp (.cons (.tp (.cons (.ct (.int 0)) (.cons (.ct (.int 1)) .nil))) .nil))) (.cons (.ix (.vr 11) (.ct (.int 1))) .nil)))
def f34e1 : IE := (.tp (.cons (.ct (.int 0)) (.cons (.ct (.int 1)) .nil)))
def f34b0 : IS := (.seq (.app 7 (.call 25 (.cons (.blt .list (.cons (.vr 0) .nil)) (.cons (.blt .list (.cons (.vr 8) .nil)) (.cons (.blt .list (.cons (.vr 2) .nil)) (.cons (.blt .list (.cons (.vr 3) .nil)) .nil)))))) (.seq (.app 7 (.call 24 (.cons (.blt .list (.cons (.vr 0) .nil)) (.cons (.blt .list (.cons (.vr 8) .nil)) (.cons (.blt .list (.cons (.vr 3) .nil)) (.cons (.vr 4) .nil)))))) .skip))
def f34e2 : IE := (.tp (.cons (.ct (.int 1)) (.cons (.ct (.int 1)) .nil)))
def f34 : FD := ⟨4, 13, .fz, (.seq (.set 4 .fz (.call 4 (.cons (.vr 0) (.cons (.vr 2) .nil)))) (.seq (.set 5 .fz (.lc f34e0 (.nm 11) (.it .val (.cons (.vr 1) .nil)) .nil)) (.seq (.set 6 .fz (.bin .add (.vr 1) (.ls (.cons (.tp (.cons (.blt .tuple (.cons (.lc f34e1 (.nm 12) (.it .val (.cons (.vr 0) .nil)) .nil) .nil)) (.cons (.tp (.cons (.ct (.int 0)) (.cons (.ct (.int 1)) .nil))) .nil))) .nil)))) (.seq (.set 7 (.ol .fz) (.ls (.cons (.call 21 (.cons (.vr 5) (.cons (.blt .list (.cons (.vr 2) .nil)) .nil))) (.cons (.call 25 (.cons (.bin .add (.vr 0) (.ls (.cons (.tp (.cons (.ct (.int 0)) (.cons (.ct (.int 1)) .nil))) .nil))) (.cons (.blt .list (.cons (.vr 1) .nil)) (.cons (.blt .list (.cons (.vr 2) .nil)) (.cons (.blt .list (.cons (.vr 3) .nil)) .nil))))) .nil)))) (.seq (.for (.nm 8) (.it .val (.cons (.ls (.cons (.vr 5) (.cons (.vr 6) .nil))) .nil)) f34b0) (.seq (.app 7 (.call 24 (.cons (.bin .add (.vr 0) (.ls (.cons (.tp (.cons (.ct (.int 0)) (.cons (.ct (.int 1)) .nil))) .nil))) (.cons (.blt .list (.cons (.vr 1) .nil)) (.cons (.blt .list (.cons (.vr 3) .nil)) (.cons (.vr 4) .nil)))))) (.seq (.app 7 (.call 24 (.cons (.blt .list (.cons (.vr 0) .nil)) (.cons (.blt .list (.cons (.vr 1) .nil)) (.cons (.bin .add (.vr 3) (.ls (.cons (.tp (.cons (.ct (.int 0)) (.cons (.ct (.int 1)) .nil))) .nil))) (.cons (.vr 4) .nil)))))) (.seq (.set 9 .fz (.blt .tuple (.cons (.lc f34e2 (.nm 12) (.it .val (.cons (.vr 0) .nil)) .nil) .nil))) (.seq (.set 10 .fz (.tp (.cons (.vr 9) (.cons (.tp (.cons (.neg (.ct (.int 1))) (.cons (.ct (.int 1)) .nil))) .nil)))) (.seq (.app 7 (.call 26 (.cons (.ls (.cons (.vr 10) .nil)) (.cons (.ls (.cons (.tp (.cons (.ct (.int 1)) (.cons (.ct (.int 1)) .nil))) (.cons (.tp (.cons (.ct (.int 0)) (.cons (.ct (.int 1)) .nil))) .nil))) .nil)))) (.seq (.app 7 (.call 26 (.cons (.bin .add (.ls (.cons (.vr 10) .nil)) (.vr 1)) (.cons (.ls (.cons (.tp (.cons (.ct (.int 1)) (.cons (.ct (.int 1)) .nil))) .nil)) .nil)))) (.seq (.app 7 (.call 26 (.cons (.ls (.cons (.vr 10) (.cons (.tp (.cons (.bin .add (.vr 9) (.tp (.cons (.tp (.cons (.ct (.int 0)) (.cons (.ct (.int 1)) .nil))) .nil))) (.cons (.tp (.cons (.ct (.int 5)) (.cons (.ct (.int 1)) .nil))) .nil))) .nil))) (.cons (.ls (.cons (.tp (.cons (.ct (.int 1)) (.cons (.ct (.int 1)) .nil))) (.cons (.tp (.cons (.ct (.int 0)) (.cons (.ct (.int 1)) .nil))) .nil))) .nil)))) (.seq (.frz 7) (.seq (.ret (.and (.call 33 (.cons (.vr 7) .nil)) (.call 13 (.cons (.call 26 (.cons (.ls (.cons (.vr 10) .nil)) (.cons (.ls (.cons (.tp (.cons (.ct (.int 1)) (.cons (.ct (.int 1)) .nil))) .nil)) .nil))) (.cons (.ct (.bl true)) .nil))))) .skip))))))))))))))⟩
def d34 : DI := ⟨"_law_unlike", top 43, ["goal", "rows", "numbers", "weights"], ["goal", "rows", "numbers", "weights", "value", "longer", "more", "told", "lines", "ones", "bar", "row", "one"], f34, []⟩
def f35e0 : IE := (.tp (.cons (.ct (.int 1)) (.cons (.ct (.int 1)) .nil)))
def f35e1 : IE := (.call 1 (.cons (.blt .min (.cons (.ix (.vr 8) (.ct (.int 0))) (.cons (.ct (.int 0)) .nil))) (.cons (.ix (.vr 8) (.ct (.int 1))) .nil)))
def f35b0 : IS := (.seq (.app 3 (.tp (.cons (.blt .tuple (.cons (.lc f35e1 (.nm 8) (.it .val (.cons (.ix (.vr 4) (.ct (.int 0))) .nil)) .nil) .nil)) (.cons (.ix (.vr 4) (.ct (.int 1))) .nil)))) .skip)
def f35e2 : IE := (.tp (.cons (.bin .add (.ix (.vr 4) (.ct (.int 0))) (.tp (.cons (.tp (.cons (.ct (.int 0)) (.cons (.ct (.int 1)) .nil))) .nil))) (.cons (.ix (.vr 4) (.ct (.int 1))) .nil)))
def f35 : FD := ⟨2, 9, .fz, (.seq (.set 2 .fz (.lc f35e0 (.nm 7) (.it .val (.cons (.vr 1) .nil)) .nil)) (.seq (.set 3 (.ol .fz) (.ls .nil)) (.seq (.for (.nm 4) (.it .val (.cons (.vr 0) .nil)) f35b0) (.seq (.frz 3) (.seq (.ite (.not (.call 13 (.cons (.call 29 (.cons (.blt .list (.cons (.vr 2) .nil)) (.cons (.blt .list (.cons (.vr 3) .nil)) (.cons (.blt .list (.cons (.vr 1) .nil)) (.cons (.blt .list (.cons (.vr 2) .nil)) .nil))))) (.cons (.ct (.bl true)) .nil)))) (.seq (.ret (.ct (.bl false))) .skip) .skip) (.seq (.set 5 .fz (.lc f35e2 (.nm 4) (.it .val (.cons (.vr 3) .nil)) .nil)) (.seq (.set 6 (.ol .fz) (.ls (.cons (.call 29 (.cons (.blt .list (.cons (.vr 2) .nil)) (.cons (.vr 5) (.cons (.blt .list (.cons (.vr 1) .nil)) (.cons (.blt .list (.cons (.vr 2) .nil)) .nil))))) .nil))) (.seq (.app 6 (.call 29 (.cons (.blt .list (.cons (.vr 2) .nil)) (.cons (.blt .list (.cons (.vr 3) .nil)) (.cons (.bin .add (.vr 1) (.ls (.cons (.tp (.cons (.ct (.int 0)) (.cons (.ct (.int 1)) .nil))) .nil))) (.cons (.blt .list (.cons (.vr 2) .nil)) .nil)))))) (.seq (.app 6 (.call 29 (.cons (.blt .list (.cons (.vr 2) .nil)) (.cons (.blt .list (.cons (.vr 3) .nil)) (.cons (.blt .list (.cons (.vr 1) .nil)) (.cons (.bin .add (.vr 2) (.ls (.cons (.tp (.cons (.ct (.int 0)) (.cons (.ct (.int 1)) .nil))) .nil))) .nil)))))) (.seq (.app 6 (.call 29 (.cons (.blt .list (.cons (.vr 2) .nil)) (.cons (.blt .list (.cons (.vr 3) .nil)) (.cons (.blt .list (.cons (.vr 1) .nil)) (.cons (.slF (.vr 2) (.ct (.int 1))) .nil)))))) (.seq (.app 6 (.call 29 (.cons (.bin .add (.vr 2) (.ls (.cons (.tp (.cons (.ct (.int 1)) (.cons (.ct (.int 1)) .nil))) .nil))) (.cons (.blt .list (.cons (.vr 3) .nil)) (.cons (.blt .list (.cons (.vr 1) .nil)) (.cons (.blt .list (.cons (.vr 2) .nil)) .nil)))))) (.seq (.frz 6) (.seq (.ret (.call 33 (.cons (.vr 6) .nil))) .skip)))))))))))))⟩
def d35 : DI := ⟨"_law_unlike_growth", top 44, ["rows", "numbers"], ["rows", "numbers", "ones", "low", "row", "longer", "told", "one", "mark"], f35, []⟩
def f36 : FD := ⟨3, 4, (.ol .fz), (.seq (.set 3 (.ol .fz) (.blt .list (.cons (.vr 0) .nil))) (.seq (.sub 3 (.vr 1) (.call 2 (.cons (.ix (.vr 3) (.vr 1)) (.cons (.vr 2) .nil)))) (.seq (.ret (.vr 3)) .skip)))⟩
def d36 : DI := ⟨"_law_bent", top 39, ["numbers", "at", "by"], ["numbers", "at", "by", "told"], f36, []⟩
def f37b0 : IS := (.seq (.ite (.not (.call 30 (.cons (.call 36 (.cons (.vr 2) (.cons (.vr 11) (.cons (.vr 7) .nil)))) (.cons (.vr 3) (.cons (.vr 4) (.cons (.vr 5) (.cons (.vr 6) .nil))))))) (.seq (.ret (.ct (.bl false))) .skip) .skip) (.seq (.ite (.not (.call 30 (.cons (.vr 2) (.cons (.vr 3) (.cons (.call 36 (.cons (.vr 4) (.cons (.vr 11) (.cons (.vr 7) .nil)))) (.cons (.vr 5) (.cons (.vr 6) .nil))))))) (.seq (.ret (.ct (.bl false))) .skip) .skip) .skip))
def f37b1 : IS := (.seq (.set 12 (.ol .fz) (.blt .list (.cons (.vr 3) .nil))) (.seq (.sub 12 (.vr 11) (.tp (.cons (.ix (.ix (.vr 3) (.vr 11)) (.ct (.int 0))) (.cons (.call 2 (.cons (.ix (.ix (.vr 3) (.vr 11)) (.ct (.int 1))) (.cons (.vr 7) .nil))) .nil)))) (.seq (.frz 12) (.seq (.ite (.not (.call 30 (.cons (.vr 2) (.cons (.vr 12) (.cons (.vr 4) (.cons (.vr 5) (.cons (.vr 6) .nil))))))) (.seq (.ret (.ct (.bl false))) .skip) .skip) (.seq (.ite (.not (.call 30 (.cons (.vr 2) (.cons (.vr 3) (.cons (.vr 4) (.cons (.call 36 (.cons (.vr 5) (.cons (.vr 11) (.cons (.vr 7) .nil)))) (.cons (.vr 6) .nil))))))) (.seq (.ret (.ct (.bl false))) .skip) .skip) .skip)))))
def f37b2 : IS := (.seq (.ite (.not (.call 30 (.cons (.vr 2) (.cons (.vr 3) (.cons (.vr 4) (.cons (.vr 5) (.cons (.call 2 (.cons (.vr 6) (.cons (.vr 7) .nil))) .nil))))))) (.seq (.ret (.ct (.bl false))) .skip) .skip) (.seq (.for (.nm 11) (.it .rng (.cons (.blt .len (.cons (.vr 2) .nil)) .nil)) f37b0) (.seq (.for (.nm 11) (.it .rng (.cons (.blt .len (.cons (.vr 3) .nil)) .nil)) f37b1) .skip)))
def f37e0 : IE := (.tp (.cons (.vr 11) (.cons (.ct (.int 1)) .nil)))
def f37e1 : IE := (.tp (.cons (.ct (.int 1)) (.cons (.ct (.int 1)) .nil)))
def f37b3 : IS := (.seq (.ite (.not (.call 13 (.cons (.call 26 (.cons (.ix (.vr 8) (.ct (.int 1))) (.cons (.vr 9) .nil))) (.cons (.call 27 (.cons (.blt .len (.cons (.ix (.vr 8) (.ct (.int 0))) .nil)) (.cons (.ix (.vr 8) (.ct (.int 1))) (.cons (.vr 9) .nil)))) .nil)))) (.seq (.ret (.ct (.bl false))) .skip) .skip) .skip)
def f37e2 : IE := (.tp (.cons (.ct (.int 0)) (.cons (.ct (.int 1)) .nil)))
def f37 : FD := ⟨1, 14, .fz, (.seq (.set 1 .fz (.call 7 (.cons (.call 31 (.cons (.vr 0) (.cons (.ct (.int 0)) .nil))) .nil))) (.seq (.set 2 .fz (.ix (.vr 1) (.ct (.int 0)))) (.seq (.set 3 .fz (.ix (.vr 1) (.ct (.int 1)))) (.seq (.set 4 .fz (.ix (.vr 1) (.ct (.int 2)))) (.seq (.set 5 .fz (.ix (.vr 1) (.ct (.int 3)))) (.seq (.set 6 .fz (.call 4 (.cons (.vr 2) (.cons (.vr 4) .nil)))) (.seq (.ite (.or (.not (.call 25 (.cons (.vr 2) (.cons (.vr 3) (.cons (.vr 4) (.cons (.vr 5) .nil)))))) (.not (.call 32 (.cons (.vr 2) (.cons (.vr 3) (.cons (.vr 4) (.cons (.vr 5) .nil))))))) (.seq (.ret (.ct (.bl false))) .skip) .skip) (.seq (.ite (.or (.not (.call 34 (.cons (.vr 2) (.cons (.vr 3) (.cons (.vr 4) (.cons (.vr 5) .nil)))))) (.not (.call 35 (.cons (.vr 3) (.cons (.vr 4) .nil))))) (.seq (.ret (.ct (.bl false))) .skip) .skip) (.seq (.for (.nm 7) (.it .val (.cons (.ls (.cons (.tp (.cons (.ct (.int 0)) (.cons (.ct (.int 1)) .nil))) (.cons (.tp (.cons (.ct (.int 1)) (.cons (.ct (.int 1)) .nil))) (.cons (.tp (.cons (.neg (.ct (.int 1))) (.cons (.ct (.int 1)) .nil))) (.cons (.tp (.cons (.neg (.ct (.int 1))) (.cons (.ct (.int 7)) .nil))) .nil))))) .nil)) f37b2) (.seq (.set 8 .fz (.call 8 (.cons (.call 31 (.cons (.vr 0) (.cons (.ct (.int 1)) .nil))) .nil))) (.seq (.for (.nm 9) (.it .val (.cons (.ls (.cons (.lc f37e1 (.nm 13) (.it .val (.cons (.ix (.vr 8) (.ct (.int 1))) .nil)) .nil) (.cons (.lc f37e0 (.nm 11) (.it .rng (.cons (.blt .len (.cons (.ix (.vr 8) (.ct (.int 1))) .nil)) .nil)) .nil) .nil))) .nil)) f37b3) (.seq (.set 10 .fz (.tp (.cons (.blt .tuple (.cons (.lc f37e1 (.nm 13) (.it .val (.cons (.vr 2) .nil)) .nil) .nil)) (.cons (.tp (.cons (.neg (.ct (.int 1))) (.cons (.ct (.int 1)) .nil))) .nil)))) (.seq (.ret (.call 30 (.cons (.vr 2) (.cons (.bin .add (.vr 3) (.ls (.cons (.vr 10) .nil))) (.cons (.vr 4) (.cons (.bin .add (.lc f37e2 (.nm 13) (.it .val (.cons (.vr 3) .nil)) .nil) (.ls (.cons (.tp (.cons (.ct (.int 1)) (.cons (.ct (.int 1)) .nil))) .nil))) (.cons (.vr 6) .nil))))))) .skip)))))))))))))⟩
def d37 : DI := ⟨"law", top 45, ["script"], ["script", "drawn", "goal", "rows", "numbers", "weights", "value", "by", "lines", "row", "first", "k", "other", "one"], f37, []⟩
def ds : List DI := [d0, d1, d2, d3, d4, d5, d6, d7, d8, d9, d10, d11, d12, d13, d14, d15, d16, d17, d18, d19, d20, d21, d22, d23, d24, d25, d26, d27, d28, d29, d30, d31, d32, d33, d34, d35, d36, d37]
def PP : List FD := [f0, f1, f2, f3, f4, f5, f6, f7, f8, f9, f10, f11, f12, f13, f14, f15, f16, f17, f18, f19, f20, f21, f22, f23, f24, f25, f26, f27, f28, f29, f30, f31, f32, f33, f34, f35, f36, f37]
end Pv.K01
namespace Pv.K01
open PySem PySem.Spec PyProof.Rows L2
/-! ### what each def does -/
theorem low : MkQ PP 1 := low_ok rfl
theorem s2 : PlusOk PP 2 := fun a b k l ha hb hk => (plus_ok (jf := 1) rfl (by decide) low ha hb hk).1
theorem s3 : TimesOk PP 3 := fun a b k l ha hb hk => (times_ok (jf := 1) rfl (by decide) low ha hb hk).1
theorem s4 : ScalarOk PP 4 := lawScalar_ok (jp := 2) (jt := 3) rfl (by decide) (by decide) s2 s3
theorem s5 : CombOk PP 5 false := lawSummed_ok (jp := 2) (jt := 3) rfl (by decide) (by decide) s2 s3
theorem s6 {a b : Rat} {k l : Nat} (ha : Sz a k) (hb : Sz b l) (hk : k + l + 1 < 9000) : sem PP 6 [fr a, fr b] = .ok (fr (a - b)) := (minus_ok (jf := 1) rfl (by decide) low ha hb hk).1
theorem s9 : NonnegOk PP 9 := lawNoLess_ok rfl
theorem s10 : LessOk PP 10 := fun a b k l ha hb hk => below_ok rfl ha hb (by omega)
theorem s14 : LessOk PP 14 := fun a b k l ha hb hk => below_ok rfl ha hb (by omega)
theorem s15 : NonnegOk PP 15 := noneBelow_ok (jb := 14) rfl (by decide) s14
theorem s16 : MkQ PP 16 := mkq_frac rfl
theorem s17 : PlusOk PP 17 := fun a b k l ha hb hk => (plus_ok (jf := 16) rfl (by decide) s16 ha hb hk).1
theorem s18 : TotalOk PP 18 := total_ok (jp := 17) rfl (by decide) s17
theorem s19 : TimesOk PP 19 := fun a b k l ha hb hk => (times_ok (jf := 16) rfl (by decide) s16 ha hb hk).1
theorem s20 : ScalarOk PP 20 := scalar_ok (jt := 19) (jo := 18) rfl (by decide) (by decide) s19 s18
theorem s21 : MeetsOk PP 21 := meets_ok (jb := 14) (js := 20) (jn := 15) rfl (by decide) (by decide) (by decide) s14 s20 s15
theorem s22 : CombOk PP 22 true := combined_ok (jp := 17) (jt := 19) rfl (by decide) (by decide) s17 s19
theorem s23 : MostOk PP 23 := fun a b k l ha hb hk => atmost_ok rfl ha hb (by omega)
theorem s24 : BoundOk PP 24 := showsBound_ok (jb := 14) (jn := 15) (jc := 22) (jm := 23) rfl (by decide) (by decide) (by decide) (by decide) s14 s15 s22 s23
theorem s25 : MostsOk PP 25 := showsMost_ok (jm := 21) (jb := 24) (js := 20) rfl (by decide) (by decide) (by decide) s21 s24 s20
theorem s26 (t u v : Bool) (rs : List Row) (ws : List Rat) (k l : Nat) (a : RSz k rs) (b : VSz l ws) (c : rs.length ≤ 50) (d : 1 + 52 * (k + l + 1) < 8990) : sem PP 26 [sq t (rs.map (rw1 u)), sq v (ws.map fr)] = .ok (.bl (barFull rs ws)) :=
  showsBar_ok (P := PP) (j := 26) (jn := 15) (jc := 22) (jb := 14) rfl (by decide) (by decide) (by decide) s15 s22 s14 t u v rs ws k l a b c d
theorem s29 : EndsOk PP 29 := showsEndless_ok (jb := 14) (js := 20) (jm := 21) (jn := 15) rfl (by decide) (by decide) (by decide) (by decide) s14 s20 s21 s15
abbrev eV (xs : List Rat) : D := .lst (xs.map fr)
abbrev eR (rs : List Row) : D := .lst (rs.map (rw1 true))
/-- rows that fit, of small sizes -/
structure Fit (g : List Rat) (rs : List Row) (xs ws : List Rat) : Prop where
  r0 : rs ≠ []
  rl : rs.length ≤ 50
  gl : g.length ≤ 50
  xl : xs.length = g.length
  wl : ws.length = rs.length
  fl : ∀ r ∈ rs, r.1.length = g.length
  rz : RSz 40 rs
  gz : VSz 40 g
  xz : VSz 40 xs
  wz : VSz 40 ws
theorem Fit.meq {g xs ws : List Rat} {rs : List Row} (h : Fit g rs xs ws) : (nonneg xs && rs.all fun r => r.1.length == xs.length && decide (dot r.1 xs ≤ r.2)) = (nonneg xs && keeps rs xs) := by
  congr 1
  unfold keeps
  rw [Bool.eq_iff_iff, List.all_eq_true, List.all_eq_true]
  constructor
  · intro z r hr
    exact (Bool.and_eq_true_iff.mp (z r hr)).2
  · intro z r hr
    have : (r.1.length == xs.length) = true := by simp [h.fl r hr, h.xl]
    rw [this, Bool.true_and]
    exact z r hr
theorem Fit.leq {g xs ws : List Rat} {rs : List Row} (h : Fit g rs xs ws) : (rs.all fun r => r.1.length == g.length) = true := by
  rw [List.all_eq_true]
  intro r hr
  simp [h.fl r hr]
theorem Fit.bar {g xs ws : List Rat} {rs : List Row} (h : Fit g rs xs ws) : barFull rs ws = barS g.length rs ws ∧ rs.isEmpty = false := by
  cases rs with
  | nil => exact absurd rfl h.r0
  | cons r0 r =>
    refine ⟨?_, rfl⟩
    have e0 : r0.1.length = g.length := h.fl r0 List.mem_cons_self
    have e1 : (ws.length == (r0 :: r).length) = true := by simp [h.wl]
    have e2 := h.leq
    unfold barFull
    dsimp only
    rw [e1, e0, e2, Bool.true_and, Bool.true_and]
theorem grow_ok {g xs ws : List Rat} {rs : List Row} (h : Fit g rs xs ws) {gr : List Rat} (hq : VSz 40 gr) (hl : gr.length = g.length) :
    sem PP 28 [eV g, eR rs, eV gr] = .ok (.bl (growS g rs gr)) ∧ sem PP 29 [eV g, eR rs, eV xs, eV gr] = .ok (.bl ((nonneg xs && keeps rs xs) && growS g rs gr)) := by
  have hgl := h.gl
  have hxl := h.xl
  refine ⟨lawGrows_ok (P := PP) (js := 4) (jn := 9) rfl (by decide) (by decide) s4 s9 false true false false g rs gr 40 40 40 h.rz h.gz hq hgl (by omega) (by omega) (by omega) hl h.fl, ?_⟩
  have := s29 false true false false false g rs xs gr 40 40 40 40 h.rz h.gz h.xz hq h.rl hgl (by omega) (by omega) (by omega) (by omega) (by omega)
  rw [h.meq] at this
  have e1 : (xs.length == g.length) = true := by simp [hxl]
  have e2 : (gr.length == g.length) = true := by simp [hl]
  rw [e1, e2, Bool.true_and, Bool.true_and] at this
  exact this
theorem asked_ok {g xs ws : List Rat} {rs : List Row} (h : Fit g rs xs ws) {v : Rat} (hv : Sz v 4100) : sem PP 30 [eV g, eR rs, eV xs, eV ws, fr v] = .ok (.bl true) := by
  have hgl := h.gl
  have hxl := h.xl
  have hwl := h.wl
  have hrl := h.rl
  have hf : fits rs xs = true := by
    unfold fits
    rw [List.all_eq_true]
    intro r hr
    simp [h.fl r hr, hxl]
  have c11 : sem PP 11 [eR rs, eV xs] = .ok (.bl (nonneg xs && keeps rs xs)) := lawMeets_ok (P := PP) (jb := 10) (js := 4) (jn := 9) rfl (by decide) (by decide) (by decide) s10 s4 s9 false true false rs xs 40 40 h.rz h.xz (by omega) (by omega) hf
  have c12 : ∀ y, Sz y 4100 → sem PP 12 [eV g, eR rs, eV ws, fr y] = .ok (.bl (boundS g rs ws y)) := fun y hy =>
    lawBoundsGoal_ok (P := PP) (jb := 10) (jn := 9) (jc := 5) rfl (by decide) (by decide) (by decide) s10 s9 s5 false true false false g rs ws y 40 40 4100 h.rz h.wz (fun x hx => (h.gz x hx).mono (by omega)) hy hrl hgl (by omega) h.fl hwl
  have c4 : sem PP 4 [eV g, eV xs] = .ok (fr (dot g xs)) := s4 false false g xs 40 40 h.gz h.xz hxl.symm (by omega) (by
    have : (g.length + 1) * (40 + 40 + 1) ≤ 51 * (40 + 40 + 1) := Nat.mul_le_mul_right _ (by omega)
    omega)
  have dz : Sz (dot g xs) 4100 := (sz_dot h.gz h.xz hgl).mono (by omega)
  have c21 : sem PP 21 [eR rs, eV xs] = .ok (.bl (nonneg xs && keeps rs xs)) := by
    have := s21 false true false rs xs 40 40 h.rz h.xz (by omega) (by omega)
    rw [h.meq] at this
    exact this
  have e1 : (ws.length == rs.length) = true := by simp [hwl]
  have e2 : (xs.length == g.length) = true := by simp [hxl]
  have c24 : sem PP 24 [eV g, eR rs, eV ws, fr v] = .ok (.bl (boundS g rs ws v)) := by
    have := s24 false true false false g rs ws v 40 40 4100 h.rz h.wz (fun x hx => (h.gz x hx).mono (by omega)) hv hrl hgl (by omega)
    rw [e1, h.leq, Bool.true_and, Bool.true_and] at this
    exact this
  have c25 : sem PP 25 [eV g, eR rs, eV xs, eV ws] = .ok (.bl ((nonneg xs && keeps rs xs) && boundS g rs ws (dot g xs))) := by
    have := s25 false true false false false g rs xs ws 40 40 40 40 h.rz h.wz h.gz h.xz hrl hgl (by omega) (by omega) (by omega)
    rw [h.meq, e1, e2, h.leq, Bool.true_and, Bool.true_and, Bool.true_and] at this
    exact this
  have c26 : sem PP 26 [eR rs, eV ws] = .ok (.bl (barS g.length rs ws)) := by
    have := s26 false true false rs ws 40 40 h.rz h.wz hrl (by omega)
    rw [h.bar.1] at this
    exact this
  have c27 : sem PP 27 [.int (g.length : Int), eR rs, eV ws] = .ok (.bl (barS g.length rs ws)) := by
    have := lawBars_ok (P := PP) (j := 27) (jn := 9) (jc := 5) rfl (by decide) (by decide) s9 s5 true false g.length rs ws 40 40 h.rz h.wz hrl hgl (by omega) h.fl hwl
    rw [h.bar.2, Bool.not_false, Bool.true_and] at this
    exact this
  have c13 : ∀ a b, sem PP 13 [.bl a, .bl b] = .ok (.bl (a == b)) := isTruth_ok rfl
  rw [sem_eq PP (j := 30) (F := f30) rfl]
  generalize hS : (fun i => if i < 30 then sem PP i else fun _ => R.bad) = S
  have hs : ∀ i, i < 30 → S i = sem PP i := fun i hi => by rw [← hS]; exact if_pos hi
  have h4 := hs 4 (by decide)
  have h11 := hs 11 (by decide)
  have h12 := hs 12 (by decide)
  have h13 := hs 13 (by decide)
  have h21 := hs 21 (by decide)
  have h24 := hs 24 (by decide)
  have h25 := hs 25 (by decide)
  have h26 := hs 26 (by decide)
  have h27 := hs 27 (by decide)
  have h28 := hs 28 (by decide)
  have h29 := hs 29 (by decide)
  generalize hF : (nonneg xs && keeps rs xs) = F at c11 c21 c25
  generalize hB : boundS g rs ws (dot g xs) = B at c25
  have cB := c12 _ dz
  rw [hB] at cB
  generalize hV : boundS g rs ws v = BV at c24
  have cV := c12 v hv
  rw [hV] at cV
  have fl := forL_all (f := fun d e => optF (bindT (.nm 9) d e) fun e' => exec S e' f30b0) (enc := fun gr : List Rat => eV gr)
    (fun done env => ∃ o9 o10, env = [some (eV g), some (eR rs), some (eV xs), some (eV ws), some (fr v), some (.bl F), some (.bl BV), some (fr (dot g xs)), some (.bl (F && B)), o9, o10, none])
    [xs, g, g.map fun _ => (1 : Rat)] [some (eV g), some (eR rs), some (eV xs), some (eV ws), some (fr v), some (.bl F), some (.bl BV), some (fr (dot g xs)), some (.bl (F && B)), none, none, none] ⟨none, none, rfl⟩ (by
      rintro done gr rest env e ⟨o9, o10, rfl⟩
      have hm : gr ∈ [xs, g, g.map fun _ => (1 : Rat)] := by rw [e]; simp
      have hgr : VSz 40 gr ∧ gr.length = g.length := by
        simp at hm
        rcases hm with rfl | rfl | rfl
        · exact ⟨h.xz, hxl⟩
        · exact ⟨h.gz, rfl⟩
        · refine ⟨fun x hx => ?_, by simp⟩
          obtain ⟨_, _, rfl⟩ := List.mem_map.mp hx
          exact ⟨by decide, by decide⟩
      obtain ⟨c28, c29⟩ := grow_ok h hgr.1 hgr.2
      rw [hF] at c29
      refine ⟨[some (eV g), some (eR rs), some (eV xs), some (eV ws), some (fr v), some (.bl F), some (.bl BV), some (fr (dot g xs)), some (.bl (F && B)), some (eV gr), some (.bl (F && growS g rs gr)), none], ?_, _, _, rfl⟩
      cases F <;> simp [bindT, optF, f30b0, exec, ev, h13, h28, h29, c28, c29, c13, bltD])
  obtain ⟨e3, g3, _, _, g4⟩ := fl
  have ml : mapO (fun d => envO (bindT (.nm 11) d (wipeE [some (eV g), some (eR rs), some (eV xs), some (eV ws), some (fr v), some (.bl F), some (.bl BV), some (fr (dot g xs)), some (.bl (F && B)), none, none, none] (Tg.nm 11).own)) fun env' => stepC (ev S env' f30e0)) (g.map fr) = some ((g.map fun _ => (1 : Rat)).map fr) := by
    rw [mapO_all (g := fun _ => fr 1)]
    · rw [List.map_map]; rfl
    · intro x _
      simp [bindT, envO, f30e0, ev, mkT, lim, stepC, fr1]
  have hlg : g.length ≤ 1000000 := by omega
  simp only [List.map_cons, List.map_nil] at g3
  have hq : ∀ b : Bool, (b == b) = true := fun b => by cases b <;> rfl
  cases F
  · simp only [Bool.false_and] at ml c25 g3
    simp [runF, f30, exec, ev, h11, c11, h12, cV, h4, c4, h21, c21, h24, c24, h25, c25, h26, c26, h27, c27, h13, c13, bltD, itD, seqD, lcD, mkL, lim, hlg, -List.map_map]
    rw [ml]
    simp [mkL, lim, itD, seqD, -List.map_map]
    rw [g3]
    rfl
  · simp only [Bool.true_and] at ml c25 g3
    simp [runF, f30, exec, ev, h11, c11, h12, cV, cB, h4, c4, h21, c21, h24, c24, h25, c25, h26, c26, h27, c27, h13, c13, bltD, itD, seqD, lcD, mkL, lim, hlg, -List.map_map]
    rw [ml]
    simp [mkL, lim, itD, seqD, -List.map_map]
    rw [g3]
    rfl
end Pv.K01

namespace Pv.K01
open PySem PySem.Spec PyProof.Rows L2
theorem z0 : Sz 0 3 := ⟨by decide, by decide⟩
theorem z1 : Sz 1 3 := ⟨by decide, by decide⟩
theorem zm1 : Sz (-1) 3 := ⟨by decide, by decide⟩
theorem z5 : Sz 5 4 := ⟨by decide, by decide⟩
theorem vz_app {k : Nat} {xs ys : List Rat} (h1 : VSz k xs) (h2 : VSz k ys) : VSz k (xs ++ ys) := fun x hx => (List.mem_append.mp hx).elim (h1 x) (h2 x)
theorem vz_one {k : Nat} {x : Rat} (h : Sz x k) : VSz k [x] := fun y hy => by rw [List.mem_singleton] at hy; rw [hy]; exact h
theorem vz_mono {k l : Nat} {xs : List Rat} (h : VSz k xs) (hl : k ≤ l) : VSz l xs := fun x hx => (h x hx).mono hl
theorem vz_drop {k n : Nat} {xs : List Rat} (h : VSz k xs) : VSz k (xs.drop n) := fun x hx => h x (List.mem_of_mem_drop hx)
theorem vz_ones {k : Nat} {α : Type} (h : 3 ≤ k) (xs : List α) : VSz k (xs.map fun _ => (1 : Rat)) := fun x hx => by
  obtain ⟨_, _, rfl⟩ := List.mem_map.mp hx
  exact z1.mono h
theorem vz_zeros {k : Nat} {α : Type} (h : 3 ≤ k) (xs : List α) : VSz k (xs.map fun _ => (0 : Rat)) := fun x hx => by
  obtain ⟨_, _, rfl⟩ := List.mem_map.mp hx
  exact z0.mono h
theorem rz_mono {k l : Nat} {rs : List Row} (h : RSz k rs) (hl : k ≤ l) : RSz l rs := fun r hr => ⟨vz_mono (h r hr).1 hl, (h r hr).2.1.mono hl, (h r hr).2.2⟩
theorem cut_one (ds : List D) : cutL ds (some 1) none = ds.tail := by
  rw [← List.drop_one]
  unfold cutL cutN
  rw [show HT.sIx ds.length 0 (some 1) = min 1 ds.length from HT.sIx_nat ds.length 0 1, HT.sIx_none]
  cases ds with
  | nil => rfl
  | cons d ds =>
    rw [show min 1 (d :: ds).length = 1 by rw [List.length_cons]; omega]
    exact List.take_of_length_le (by simp)
theorem c13 : ∀ a b, sem PP 13 [.bl a, .bl b] = .ok (.bl (a == b)) := isTruth_ok rfl
/-- the forms in which the calls stand -/
theorem m25 {g xs ws : List Rat} {rs : List Row} (hr : RSz 40 rs) (hg : VSz 40 g) (hx : VSz 40 xs) (hw : VSz 40 ws) (h1 : rs.length ≤ 50) (h2 : g.length ≤ 50) (h3 : xs.length ≤ 50) :
    sem PP 25 [eV g, eR rs, eV xs, eV ws] = .ok (.bl (xs.length == g.length && ((nonneg xs && rs.all fun r => r.1.length == xs.length && decide (dot r.1 xs ≤ r.2)) && (ws.length == rs.length && (nonneg ws && (rs.all (fun r => r.1.length == g.length) && (covers g (comb g.length rs ws).1 && decide ((comb g.length rs ws).2 ≤ dot g xs)))))))) :=
  s25 false true false false false g rs xs ws 40 40 40 40 hr hw hg hx h1 h2 h3 (by omega) (by omega)
theorem m24 {g ws : List Rat} {rs : List Row} {x : Rat} (hr : RSz 40 rs) (hg : VSz 40 g) (hw : VSz 40 ws) (hx : Sz x 4100) (h1 : rs.length ≤ 50) (h2 : g.length ≤ 50) :
    sem PP 24 [eV g, eR rs, eV ws, fr x] = .ok (.bl (ws.length == rs.length && (nonneg ws && (rs.all (fun r => r.1.length == g.length) && (covers g (comb g.length rs ws).1 && decide ((comb g.length rs ws).2 ≤ x)))))) :=
  s24 false true false false g rs ws x 40 40 4100 hr hw (vz_mono hg (by omega)) hx h1 h2 (by omega)
theorem m29 {g xs gr : List Rat} {rs : List Row} (hr : RSz 40 rs) (hg : VSz 40 g) (hx : VSz 40 xs) (hq : VSz 40 gr) (h1 : rs.length ≤ 50) (h2 : g.length ≤ 50) (h3 : xs.length ≤ 50) (h4 : gr.length ≤ 50) :
    sem PP 29 [eV g, eR rs, eV xs, eV gr] = .ok (.bl (xs.length == g.length && (gr.length == g.length && ((nonneg xs && rs.all fun r => r.1.length == xs.length && decide (dot r.1 xs ≤ r.2)) && growS g rs gr)))) :=
  s29 false true false false false g rs xs gr 40 40 40 40 hr hg hx hq h1 h2 h3 h4 (by omega) (by omega) (by omega)
theorem m26 {rs : List Row} {ws : List Rat} (hr : RSz 40 rs) (hw : VSz 40 ws) (h : rs.length ≤ 50) : sem PP 26 [eR rs, eV ws] = .ok (.bl (barFull rs ws)) := s26 false true false rs ws 40 40 hr hw h (by omega)
theorem m21 {rs : List Row} {xs : List Rat} (hr : RSz 40 rs) (hx : VSz 40 xs) (h : xs.length ≤ 50) : sem PP 21 [eR rs, eV xs] = .ok (.bl (nonneg xs && rs.all fun r => r.1.length == xs.length && decide (dot r.1 xs ≤ r.2))) := s21 false true false rs xs 40 40 hr hx h (by omega)
theorem all_false_len {rs : List Row} (h : rs ≠ []) {xs : List Rat} (hl : ∀ r ∈ rs, r.1.length ≠ xs.length) : (rs.all fun r => r.1.length == xs.length && decide (dot r.1 xs ≤ r.2)) = false := by
  cases rs with
  | nil => exact absurd rfl h
  | cons r rs =>
    have : (r.1.length == xs.length) = false := by simpa using hl r List.mem_cons_self
    rw [List.all_cons, this]; rfl
theorem all_false_len2 {rs : List Row} (h : rs ≠ []) {n : Nat} (hl : ∀ r ∈ rs, r.1.length ≠ n) : (rs.all fun r => r.1.length == n) = false := by
  cases rs with
  | nil => exact absurd rfl h
  | cons r rs =>
    have : (r.1.length == n) = false := by simpa using hl r List.mem_cons_self
    rw [List.all_cons, this]; rfl
theorem bar_len {rs : List Row} {ws : List Rat} (h : ws.length ≠ rs.length) : barFull rs ws = false := by
  cases rs with
  | nil => rfl
  | cons r0 r =>
    unfold barFull
    have : (ws.length == (r0 :: r).length) = false := by simpa using h
    simp only [this, Bool.false_and]
theorem neq_b {a b : Nat} (h : a ≠ b) : (a == b) = false := by simpa using h
/-- what is drawn: papers that are the best -/
structure Pap (g : List Rat) (rs : List Row) (xs ws : List Rat) : Prop where
  g1 : 1 ≤ g.length
  g4 : g.length ≤ 4
  r1 : 1 ≤ rs.length
  r5 : rs.length ≤ 5
  xl : xs.length = g.length
  wl : ws.length = rs.length
  fl : ∀ r ∈ rs, r.1.length = g.length
  rz : RSz 30 rs
  gz : VSz 30 g
  xz : VSz 3 xs
  wz : VSz 2 ws
  xp : nonneg xs = true
  wp : nonneg ws = true
  kp : keeps rs xs = true
  cv : covers g (comb g.length rs ws).1 = true
  bd : (comb g.length rs ws).2 ≤ dot g xs
section
variable {g xs ws : List Rat} {rs : List Row}
theorem Pap.fit (h : Pap g rs xs ws) : Fit g rs xs ws where
  r0 := by intro e; have := h.r1; rw [e] at this; simp at this
  rl := by have := h.r5; omega
  gl := by have := h.g4; omega
  xl := h.xl
  wl := h.wl
  fl := h.fl
  rz := rz_mono h.rz (by omega)
  gz := vz_mono h.gz (by omega)
  xz := vz_mono h.xz (by omega)
  wz := vz_mono h.wz (by omega)
theorem Pap.dz (h : Pap g rs xs ws) : Sz (dot g xs) 4000 := by
  refine (dot_sz h.gz h.xz).mono ?_
  have := h.g4
  have : g.length * (30 + 3 + 1) ≤ 4 * (30 + 3 + 1) := Nat.mul_le_mul_right _ (by omega)
  omega
theorem Pap.most (h : Pap g rs xs ws) : sem PP 25 [eV g, eR rs, eV xs, eV ws] = .ok (.bl true) := by
  have f := h.fit
  rw [m25 f.rz f.gz f.xz f.wz f.rl f.gl (by have := h.xl; have := f.gl; omega), f.meq, f.leq, h.xp, h.kp, h.wp, h.cv]
  have e1 : (ws.length == rs.length) = true := by simp [h.wl]
  have e2 : (xs.length == g.length) = true := by simp [h.xl]
  have e3 : decide ((comb g.length rs ws).2 ≤ dot g xs) = true := decide_eq_true h.bd
  rw [e1, e2, e3]
  rfl
theorem short_ok (h : Pap g rs xs ws) : sem PP 32 [eV g, eR rs, eV xs, eV ws] = .ok (.bl true) := by
  have f := h.fit
  have g1 := h.g1
  have g4 := h.g4
  have r1 := h.r1
  have r5 := h.r5
  have xl := h.xl
  have wl := h.wl
  have fz0 : VSz 40 [(0 : Rat)] := vz_one (z0.mono (by omega))
  have a1 : sem PP 25 [eV g, eR rs, .lst (xs.map fr).tail, eV ws] = .ok (.bl false) := by
    have := m25 (xs := xs.drop 1) f.rz f.gz (vz_drop f.xz) f.wz f.rl f.gl (by simp; omega)
    rw [neq_b (by simp; omega : (xs.drop 1).length ≠ g.length), Bool.false_and] at this
    rw [← List.drop_one, ← List.map_drop]
    exact this
  have a2 : sem PP 25 [eV g, eR rs, eV xs, .lst (ws.map fr).tail] = .ok (.bl false) := by
    have := m25 (ws := ws.drop 1) f.rz f.gz f.xz (vz_drop f.wz) f.rl f.gl (by omega)
    rw [neq_b (by simp; omega : (ws.drop 1).length ≠ rs.length), Bool.false_and, Bool.and_false, Bool.and_false] at this
    rw [← List.drop_one, ← List.map_drop]
    exact this
  have a3 : sem PP 25 [eV g, eR rs, .lst (xs.map fr ++ [.tup [.int 0, .int 1]]), eV ws] = .ok (.bl false) := by
    have := m25 (xs := xs ++ [(0 : Rat)]) f.rz f.gz (vz_app f.xz fz0) f.wz f.rl f.gl (by simp; omega)
    rw [neq_b (by simp; omega : (xs ++ [(0 : Rat)]).length ≠ g.length), Bool.false_and] at this
    rw [← fr0, show xs.map fr ++ [fr 0] = (xs ++ [(0 : Rat)]).map fr by simp]
    exact this
  have a4 : sem PP 25 [eV g, eR rs, eV xs, .lst (ws.map fr ++ [.tup [.int 0, .int 1]])] = .ok (.bl false) := by
    have := m25 (ws := ws ++ [(0 : Rat)]) f.rz f.gz f.xz (vz_app f.wz fz0) f.rl f.gl (by omega)
    rw [neq_b (by simp; omega : (ws ++ [(0 : Rat)]).length ≠ rs.length), Bool.false_and, Bool.and_false, Bool.and_false] at this
    rw [← fr0, show ws.map fr ++ [fr 0] = (ws ++ [(0 : Rat)]).map fr by simp]
    exact this
  have a5 : sem PP 24 [eV g, eR rs, .lst (ws.map fr ++ [.tup [.int 0, .int 1]]), .tup [.int 99, .int 1]] = .ok (.bl false) := by
    have := m24 (ws := ws ++ [(0 : Rat)]) (x := 99) f.rz f.gz (vz_app f.wz fz0) (Sz.mono (k := 10) ⟨by decide, by decide⟩ (by omega)) f.rl f.gl
    rw [neq_b (by simp; omega : (ws ++ [(0 : Rat)]).length ≠ rs.length), Bool.false_and] at this
    rw [← fr0, show ws.map fr ++ [fr 0] = (ws ++ [(0 : Rat)]).map fr by simp]
    exact this
  have a6 : sem PP 26 [eR rs, .lst (ws.map fr ++ [.tup [.int 0, .int 1]])] = .ok (.bl false) := by
    have := m26 (ws := ws ++ [(0 : Rat)]) f.rz (vz_app f.wz fz0) f.rl
    rw [bar_len (by simp; omega)] at this
    rw [← fr0, show ws.map fr ++ [fr 0] = (ws ++ [(0 : Rat)]).map fr by simp]
    exact this
  have a7 : sem PP 29 [eV g, eR rs, eV xs, .lst ((g.map fun _ => (1 : Rat)).map fr ++ [.tup [.int 0, .int 1]])] = .ok (.bl false) := by
    have := m29 (gr := (g.map fun _ => (1 : Rat)) ++ [(0 : Rat)]) f.rz f.gz f.xz (vz_app (vz_ones (by omega) g) fz0) f.rl f.gl (by omega) (by simp; omega)
    rw [neq_b (by simp : ((g.map fun _ => (1 : Rat)) ++ [(0 : Rat)]).length ≠ g.length), Bool.false_and, Bool.and_false] at this
    rw [← fr0, show (g.map fun _ => (1 : Rat)).map fr ++ [fr 0] = ((g.map fun _ => (1 : Rat)) ++ [(0 : Rat)]).map fr by simp]
    exact this
  have a8 : sem PP 26 [.lst [], .lst []] = .ok (.bl false) := m26 (rs := []) (ws := []) (by intro r hr; cases hr) (by intro r hr; cases hr) (by simp)
  have a9 : sem PP 21 [eR rs, .lst (xs.map fr ++ [.tup [.int 0, .int 1]])] = .ok (.bl false) := by
    have := m21 (xs := xs ++ [(0 : Rat)]) f.rz (vz_app f.xz fz0) (by simp; omega)
    rw [all_false_len f.r0 (fun r hr => by have := f.fl r hr; simp; omega), Bool.and_false] at this
    rw [← fr0, show xs.map fr ++ [fr 0] = (xs ++ [(0 : Rat)]).map fr by simp]
    exact this
  rw [sem_eq PP (j := 32) (F := f32) rfl]
  generalize hS : (fun i => if i < 32 then sem PP i else fun _ => R.bad) = S
  have hs : ∀ i, i < 32 → S i = sem PP i := fun i hi => by rw [← hS]; exact if_pos hi
  have h13 := hs 13 (by decide)
  have h21 := hs 21 (by decide)
  have h24 := hs 24 (by decide)
  have h25 := hs 25 (by decide)
  have h26 := hs 26 (by decide)
  have h29 := hs 29 (by decide)
  have ml : mapO (fun d => envO (bindT (.nm 4) d (wipeE [some (eV g), some (eR rs), some (eV xs), some (eV ws), none] (Tg.nm 4).own)) fun env' => stepC (ev S env' f32e0)) (g.map fr) = some ((g.map fun _ => (1 : Rat)).map fr) := by
    rw [mapO_all (g := fun _ => fr 1)]
    · rw [List.map_map]; rfl
    · intro x _
      simp [bindT, envO, f32e0, ev, mkT, lim, stepC, fr1]
  have hl1 : xs.length ≤ 1000001 := by omega
  have hl2 : ws.length + 1 ≤ 1000000 := by omega
  have hl3 : xs.length + 1 ≤ 1000000 := by omega
  have hl4 : g.length ≤ 1000000 := by omega
  have hl5 : ws.length ≤ 1000001 := by omega
  simp [runF, f32, exec, ev, slO, intR, cut_one, mkL, lim, hl1, hl2, hl3, hl4, hl5, h25, a1, a2, a3, a4, binD, mkT, h24, a5, h26, a6, a8, h21, a9, h13, c13, itD, seqD, lcD, -List.map_map]
  rw [ml]
  have hl6 : g.length + 1 ≤ 1000000 := by omega
  have hl7 : xs.length ≤ 999999 := by omega
  have hl8 : g.length ≤ 999999 := by omega
  simp [h29, a7, mkL, lim, h21, a9, h13, c13, hl3, hl6, hl7, hl8, binD, Fl.out, -List.map_map]
theorem allFalse_ok (bs : List D) (h : ∀ b ∈ bs, b = .bl false) : sem PP 33 [.lst bs] = .ok (.bl true) := by
  rw [sem_eq PP (j := 33) (F := f33) rfl]
  generalize hS : (fun i => if i < 33 then sem PP i else fun _ => R.bad) = S
  have h13 : S 13 = sem PP 13 := by rw [← hS]; exact if_pos (by decide)
  have fl := forL_all (f := fun d e => optF (bindT (.nm 1) d e) fun e' => exec S e' f33b0) (enc := fun d : D => d) (fun _ env => ∃ o, env = [some (.lst bs), o]) bs [some (.lst bs), none] ⟨none, rfl⟩ (by
    rintro done x rest env e ⟨o, rfl⟩
    have hx : x = .bl false := h x (by rw [e]; simp)
    subst hx
    refine ⟨[some (.lst bs), some (.bl false)], ?_, some (.bl false), rfl⟩
    simp [bindT, optF, f33b0, exec, ev, h13, c13])
  obtain ⟨e1, g1, o1, g2⟩ := fl
  rw [List.map_id'] at g1
  simp [runF, f33, exec, ev, itD, seqD]
  rw [g1]
  rfl
theorem bent_ok {k : Nat} {q : Rat} (hk : k < xs.length) (hx : VSz 1000 xs) (hq : Sz q 1000) : sem PP 36 [eV xs, .int (k : Int), fr q] = .ok (eV (xs.set k (xs[k] + q))) := by
  rw [sem_eq PP (j := 36) (F := f36) rfl]
  generalize hS : (fun i => if i < 36 then sem PP i else fun _ => R.bad) = S
  have h2 : S 2 = sem PP 2 := by rw [← hS]; exact if_pos (by decide)
  have c := s2 xs[k] q 1000 1000 (hx _ (List.getElem_mem hk)) hq (by omega)
  have a1 : ixD (.lst (xs.map fr)) (.int (k : Int)) = .ok (fr xs[k]) := at_map hk
  have hn : L2.ixN xs.length (k : Int) = some k := by
    unfold L2.ixN
    rw [if_pos (by omega), if_pos (by omega)]
    simp
  simp [runF, f36, exec, ev, bltD, a1, h2, c, hn, Fl.out, List.map_set]
def longer (rs : List Row) : List Row := rs.map fun r => (r.1 ++ [(0 : Rat)], r.2)
theorem longer_sz {k : Nat} (h : RSz k rs) (hk : 3 ≤ k) (hl : ∀ r ∈ rs, r.1.length ≤ 49) : RSz k (longer rs) := fun r hr => by
  obtain ⟨q, hq, rfl⟩ := List.mem_map.mp hr
  exact ⟨vz_app (h q hq).1 (vz_one (z0.mono hk)), (h q hq).2.1, by have := hl q hq; simp; omega⟩
theorem longer_len {n : Nat} (h : ∀ r ∈ rs, r.1.length = n) : ∀ r ∈ longer rs, r.1.length = n + 1 := fun r hr => by
  obtain ⟨q, hq, rfl⟩ := List.mem_map.mp hr
  simp [h q hq]
theorem longer_ne (h : rs ≠ []) : longer rs ≠ [] := by simp [longer, h]
theorem unlike_ok (h : Pap g rs xs ws) : sem PP 34 [eV g, eR rs, eV xs, eV ws] = .ok (.bl true) := by
  have f := h.fit
  have g1 := h.g1
  have g4 := h.g4
  have r1 := h.r1
  have r5 := h.r5
  have xl := h.xl
  have wl := h.wl
  have fz0 : VSz 40 [(0 : Rat)] := vz_one (z0.mono (by omega))
  have fz1 : VSz 40 [(1 : Rat)] := vz_one (z1.mono (by omega))
  have fz10 : VSz 40 [(1 : Rat), 0] := fun x hx => by
    simp at hx
    rcases hx with rfl | rfl
    · exact z1.mono (by omega)
    · exact z0.mono (by omega)
  have Lz := longer_sz f.rz (by omega) fun r hr => by have := f.fl r hr; omega
  have Ll := longer_len h.fl
  have Ln := longer_ne f.r0
  have Lc : (longer rs).length = rs.length := by simp [longer]
  have zl : VSz 40 (g.map fun _ => (0 : Rat)) := vz_zeros (by omega) g
  have ol : VSz 40 (g.map fun _ => (1 : Rat)) := vz_ones (by omega) g
  have Mz : RSz 40 (rs ++ [((g.map fun _ => (0 : Rat)), (0 : Rat))]) := fun r hr => (List.mem_append.mp hr).elim (f.rz r) fun z => by
    rw [List.mem_singleton] at z
    rw [z]
    exact ⟨zl, z0.mono (by omega), by simp; omega⟩
  have Ml : (rs ++ [((g.map fun _ => (0 : Rat)), (0 : Rat))]).length = rs.length + 1 := by simp
  have dz : Sz (dot g xs) 4100 := h.dz.mono (by omega)
  have bz : RSz 40 [((g.map fun _ => (1 : Rat)), (-1 : Rat))] := fun r hr => by
    rw [List.mem_singleton] at hr
    rw [hr]
    exact ⟨ol, zm1.mono (by omega), by simp; omega⟩
  have bz1 : RSz 40 ([((g.map fun _ => (1 : Rat)), (-1 : Rat))] ++ rs) := fun r hr => (List.mem_append.mp hr).elim (bz r) (f.rz r)
  have bz2 : RSz 40 [((g.map fun _ => (1 : Rat)), (-1 : Rat)), ((g.map fun _ => (1 : Rat)) ++ [(0 : Rat)], (5 : Rat))] := fun r hr => by
    rcases List.mem_cons.mp hr with z | z
    · exact bz r (by rw [z]; simp)
    · rw [List.mem_singleton] at z
      rw [z]
      exact ⟨vz_app ol fz0, z5.mono (by omega), by simp; omega⟩
  -- the calls
  have a1 : sem PP 21 [eR (longer rs), eV xs] = .ok (.bl false) := by
    have := m21 Lz f.xz (by omega)
    rw [all_false_len Ln (fun r hr => by have := Ll r hr; omega), Bool.and_false] at this
    exact this
  have a2 : sem PP 25 [.lst (g.map fr ++ [.tup [.int 0, .int 1]]), eR rs, eV xs, eV ws] = .ok (.bl false) := by
    have := m25 (g := g ++ [(0 : Rat)]) f.rz (vz_app f.gz fz0) f.xz f.wz f.rl (by simp; omega) (by omega)
    rw [neq_b (by simp; omega : xs.length ≠ (g ++ [(0 : Rat)]).length), Bool.false_and] at this
    rw [← fr0, show g.map fr ++ [fr 0] = (g ++ [(0 : Rat)]).map fr by simp]
    exact this
  have a3 : sem PP 25 [eV g, eR (longer rs), eV xs, eV ws] = .ok (.bl false) := by
    have := m25 Lz f.gz f.xz f.wz (by omega) f.gl (by omega)
    rw [all_false_len Ln (fun r hr => by have := Ll r hr; omega), Bool.and_false, Bool.false_and, Bool.and_false] at this
    exact this
  have a4 : sem PP 24 [eV g, eR (longer rs), eV ws, fr (dot g xs)] = .ok (.bl false) := by
    have := m24 (x := dot g xs) Lz f.gz f.wz dz (by omega) f.gl
    rw [all_false_len2 Ln (fun r hr => by have := Ll r hr; omega), Bool.false_and, Bool.and_false, Bool.and_false] at this
    exact this
  have a5 : sem PP 25 [eV g, eR (rs ++ [((g.map fun _ => (0 : Rat)), (0 : Rat))]), eV xs, eV ws] = .ok (.bl false) := by
    have := m25 Mz f.gz f.xz f.wz (by omega) f.gl (by omega)
    rw [neq_b (by omega : ws.length ≠ (rs ++ [((g.map fun _ => (0 : Rat)), (0 : Rat))]).length), Bool.false_and, Bool.and_false, Bool.and_false] at this
    exact this
  have a6 : sem PP 24 [eV g, eR (rs ++ [((g.map fun _ => (0 : Rat)), (0 : Rat))]), eV ws, fr (dot g xs)] = .ok (.bl false) := by
    have := m24 (x := dot g xs) Mz f.gz f.wz dz (by omega) f.gl
    rw [neq_b (by omega : ws.length ≠ (rs ++ [((g.map fun _ => (0 : Rat)), (0 : Rat))]).length), Bool.false_and] at this
    exact this
  have a7 : sem PP 24 [.lst (g.map fr ++ [.tup [.int 0, .int 1]]), eR rs, eV ws, fr (dot g xs)] = .ok (.bl false) := by
    have := m24 (g := g ++ [(0 : Rat)]) (x := dot g xs) f.rz (vz_app f.gz fz0) f.wz dz f.rl (by simp; omega)
    rw [all_false_len2 f.r0 (fun r hr => by have := f.fl r hr; simp; omega), Bool.false_and, Bool.and_false, Bool.and_false] at this
    rw [← fr0, show g.map fr ++ [fr 0] = (g ++ [(0 : Rat)]).map fr by simp]
    exact this
  have a8 : sem PP 24 [eV g, eR rs, .lst (ws.map fr ++ [.tup [.int 0, .int 1]]), fr (dot g xs)] = .ok (.bl false) := by
    have := m24 (ws := ws ++ [(0 : Rat)]) (x := dot g xs) f.rz f.gz (vz_app f.wz fz0) dz f.rl f.gl
    rw [neq_b (by simp; omega : (ws ++ [(0 : Rat)]).length ≠ rs.length), Bool.false_and] at this
    rw [← fr0, show ws.map fr ++ [fr 0] = (ws ++ [(0 : Rat)]).map fr by simp]
    exact this
  let barD : D := .tup [.tup ((g.map fun _ => (1 : Rat)).map fr), .tup [.int (-1), .int 1]]
  have a9 : sem PP 26 [.lst [.tup [.tup ((g.map fun _ => (1 : Rat)).map fr), .tup [.int (-1), .int 1]]], .lst [.tup [.int 1, .int 1], .tup [.int 0, .int 1]]] = .ok (.bl false) := by
    have := m26 (ws := [1, 0]) bz fz10 (by simp)
    rw [bar_len (by simp)] at this
    exact this
  have a10 : sem PP 26 [.lst (.tup [.tup ((g.map fun _ => (1 : Rat)).map fr), .tup [.int (-1), .int 1]] :: rs.map (rw1 true)), .lst [.tup [.int 1, .int 1]]] = .ok (.bl false) := by
    have := m26 (ws := [1]) bz1 fz1 (by simp; omega)
    rw [bar_len (by have := f.r0; simpa using this)] at this
    exact this
  have a11 : sem PP 26 [.lst [.tup [.tup ((g.map fun _ => (1 : Rat)).map fr), .tup [.int (-1), .int 1]], .tup [.tup ((g.map fun _ => (1 : Rat)).map fr ++ [.tup [.int 0, .int 1]]), .tup [.int 5, .int 1]]], .lst [.tup [.int 1, .int 1], .tup [.int 0, .int 1]]] = .ok (.bl false) := by
    have := m26 (ws := [1, 0]) bz2 fz10 (by simp)
    have e : barFull [((g.map fun _ => (1 : Rat)), (-1 : Rat)), ((g.map fun _ => (1 : Rat)) ++ [(0 : Rat)], (5 : Rat))] [1, 0] = false := by
      unfold barFull
      simp
    rw [e] at this
    rw [← fr0, show (g.map fun _ => (1 : Rat)).map fr ++ [fr 0] = ((g.map fun _ => (1 : Rat)) ++ [(0 : Rat)]).map fr by simp]
    exact this
  have a12 : sem PP 26 [.lst [.tup [.tup ((g.map fun _ => (1 : Rat)).map fr), .tup [.int (-1), .int 1]]], .lst [.tup [.int 1, .int 1]]] = .ok (.bl true) := by
    have := m26 (ws := [1]) bz fz1 (by simp)
    have e : barFull [((g.map fun _ => (1 : Rat)), (-1 : Rat))] [1] = true := by
      have e1 : nonneg (((List.replicate (g.map fun _ => (1 : Rat)).length (0 : Rat)).zip (g.map fun _ => (1 : Rat))).map fun q => q.1 + 1 * q.2) = true := by
        unfold nonneg
        rw [List.all_eq_true]
        intro x hx
        obtain ⟨q, hq, rfl⟩ := List.mem_map.mp hx
        have hz := List.of_mem_zip (a := q.1) (b := q.2) hq
        have e1 : q.1 = 0 := (List.mem_replicate.mp hz.1).2
        obtain ⟨_, _, e2⟩ := List.mem_map.mp hz.2
        rw [e1, ← e2]
        decide +kernel
      have e2 : decide ((0 : Rat) + 1 * (-1) < 0) = true := by decide +kernel
      have e3 : nonneg [1] = true := by decide +kernel
      have e4 : ([1] : List Rat).length = 1 := rfl
      show (1 == 1 && (((g.map fun _ => (1 : Rat)).length == (g.map fun _ => (1 : Rat)).length && true) && (nonneg [1] && (nonneg (((List.replicate (g.map fun _ => (1 : Rat)).length (0 : Rat)).zip (g.map fun _ => (1 : Rat))).map fun q => q.1 + 1 * q.2) && decide ((0 : Rat) + 1 * (-1) < 0))))) = true
      rw [e1, e2, e3]
      simp
    rw [e] at this
    exact this
  rw [sem_eq PP (j := 34) (F := f34) rfl]
  generalize hS : (fun i => if i < 34 then sem PP i else fun _ => R.bad) = S
  have hs : ∀ i, i < 34 → S i = sem PP i := fun i hi => by rw [← hS]; exact if_pos hi
  have h4 := hs 4 (by decide)
  have h13 := hs 13 (by decide)
  have h21 := hs 21 (by decide)
  have h24 := hs 24 (by decide)
  have h25 := hs 25 (by decide)
  have h26 := hs 26 (by decide)
  have h33 := hs 33 (by decide)
  have c4 : sem PP 4 [eV g, eV xs] = .ok (fr (dot g xs)) := s4 false false g xs 40 40 f.gz f.xz xl.symm (by omega) (by
    have : (g.length + 1) * (40 + 40 + 1) ≤ 5 * (40 + 40 + 1) := Nat.mul_le_mul_right _ (by omega)
    omega)
  let V : D := fr (dot g xs)
  let L : D := eR (longer rs)
  let M : D := eR (rs ++ [((g.map fun _ => (0 : Rat)), (0 : Rat))])
  let O : D := .tup ((g.map fun _ => (1 : Rat)).map fr)
  let B : D := .tup [O, .tup [.int (-1), .int 1]]
  have mL : mapO (fun d => envO (bindT (.nm 11) d (wipeE [some (eV g), some (eR rs), some (eV xs), some (eV ws), some (fr (dot g xs)), none, none, none, none, none, none, none, none] (Tg.nm 11).own)) fun env' => stepC (ev S env' f34e0)) (rs.map (rw1 true)) = some ((longer rs).map (rw1 true)) := by
    rw [mapO_all (g := fun r : Row => rw1 true (r.1 ++ [(0 : Rat)], r.2))]
    · unfold longer
      rw [List.map_map]; rfl
    · intro r hr
      have := (f.rz r hr).2.2
      have h2 : r.1.length + 1 ≤ 1000000 := by omega
      simp [bindT, envO, wipeE, Tg.own, f34e0, ev, rw1, ixD, at0, at1, binD, mkT, lim, stepC, h2, fr0]
  have mZ : mapO (fun d => envO (bindT (.nm 12) d (wipeE [some (eV g), some (eR rs), some (eV xs), some (eV ws), some (fr (dot g xs)), some L, none, none, none, none, none, none, none] (Tg.nm 12).own)) fun env' => stepC (ev S env' f34e1)) (g.map fr) = some ((g.map fun _ => (0 : Rat)).map fr) := by
    rw [mapO_all (g := fun _ => fr 0)]
    · rw [List.map_map]; rfl
    · intro x _
      simp [bindT, envO, f34e1, ev, mkT, lim, stepC, fr0]
  have mO : mapO (fun d => envO (bindT (.nm 12) d (wipeE [some (eV g), some (eR rs), some (eV xs), some (eV ws), some (fr (dot g xs)), some L, some M, some (.lst [.bl false, .bl false, .bl false, .bl false, .bl false, .bl false, .bl false, .bl false]), some M, none, none, none, none] (Tg.nm 12).own)) fun env' => stepC (ev S env' f34e2)) (g.map fr) = some ((g.map fun _ => (1 : Rat)).map fr) := by
    rw [mapO_all (g := fun _ => fr 1)]
    · rw [List.map_map]; rfl
    · intro x _
      simp [bindT, envO, f34e2, ev, mkT, lim, stepC, fr1]
  have fl : forL (fun d e => optF (bindT (.nm 8) d e) fun e' => exec S e' f34b0) [L, M] [some (eV g), some (eR rs), some (eV xs), some (eV ws), some (fr (dot g xs)), some L, some M, some (.lst [.bl false, .bl false]), none, none, none, none, none] =
      .nx [some (eV g), some (eR rs), some (eV xs), some (eV ws), some (fr (dot g xs)), some L, some M, some (.lst [.bl false, .bl false, .bl false, .bl false, .bl false, .bl false]), some M, none, none, none, none] := by
    simp [forL, bindT, optF, f34b0, exec, ev, bltD, h25, h24, a3, a4, a5, a6, lim, L, M, -List.map_append]
  have r33 := allFalse_ok [.bl false, .bl false, .bl false, .bl false, .bl false, .bl false, .bl false, .bl false, .bl false, .bl false, .bl false] (by simp)
  have hl1 : rs.length ≤ 1000000 := by omega
  have hl2 : g.length ≤ 1000000 := by omega
  have hl3 : rs.length + 1 ≤ 1000000 := by omega
  have hl4 : g.length + 1 ≤ 1000000 := by omega
  have hl5 : ws.length + 1 ≤ 1000000 := by omega
  have hl6 : 1 + rs.length ≤ 1000000 := by omega
  have bi : ∀ a b : List D, binD .add (.lst a) (.lst b) = mkL (a ++ b) := fun _ _ => rfl
  have bt : ∀ a b : List D, binD .add (.tup a) (.tup b) = mkT (a ++ b) := fun _ _ => rfl
  simp only [runF, f34, exec, ev]
  simp [h4, c4, itD, seqD, lcD, lim, hl1, hl2]
  rw [mL]
  simp [bi, itD, seqD, lcD, mkL, mkT, lim, hl1, hl2, bltD, hl3]
  rw [mZ]
  have eM : D.lst (rs.map (rw1 true) ++ [.tup [.tup ((g.map fun _ => (0 : Rat)).map fr), .tup [.int 0, .int 1]]]) = eR (rs ++ [((g.map fun _ => (0 : Rat)), (0 : Rat))]) := by simp [rw1, fr0]
  simp [bi, bt, itD, seqD, lcD, mkL, mkT, lim, hl1, hl2, hl3, hl4, bltD, -List.map_map]
  rw [eM]
  simp [bi, bt, itD, seqD, lcD, mkL, mkT, lim, hl1, hl2, hl3, hl4, bltD, h21, a1, h25, a2, -List.map_map, -List.map_append]
  simp only [L, M] at fl mO
  rw [fl]
  simp [bi, bt, itD, seqD, lcD, mkL, mkT, lim, hl1, hl2, hl3, hl4, hl5, hl6, bltD, h24, a7, a8, -List.map_map, -List.map_append]
  rw [mO]
  simp [bi, bt, itD, seqD, lcD, mkL, mkT, lim, hl1, hl2, hl3, hl4, hl5, hl6, bltD, h26, a9, a10, a11, -List.map_map, -List.map_append]
  simp only [h33, r33]
  simp [a12, h13, c13, Fl.out, -List.map_map]
end
end Pv.K01

namespace Pv.K01
open PySem PySem.Spec PyProof.Rows L2
def mq (q : Rat) : Rat := if 0 < q.num then 0 else q
theorem mq_eq (q : Rat) : Rat.divInt (if 0 < q.num then 0 else q.num) q.den = mq q := by
  unfold mq
  split
  · exact Rat.zero_divInt _
  · exact Rat.num_divInt_den q
theorem mq_le (q : Rat) : mq q ≤ q := by
  unfold mq
  split
  · rename_i h
    have := num_pos.mp h
    grind
  · grind
theorem mq_le0 (q : Rat) : mq q ≤ 0 := by
  unfold mq
  split
  · grind
  · rename_i h
    have : ¬ 0 < q := fun z => h (num_pos.mpr z)
    exact Rat.not_lt.mp this
theorem mq_sz {q : Rat} {k : Nat} (h : Sz q k) (hk : 3 ≤ k) : Sz (mq q) k := by
  unfold mq
  split
  · exact z0.mono hk
  · exact h
theorem low_le : ∀ (l ys : List Rat) (s s' : Rat), s ≤ s' → (∀ y ∈ ys, 0 ≤ y) → dotA s (l.map mq) ys ≤ dotA s' l ys
  | [], _, s, s', h, _ => h
  | _ :: _, [], s, s', h, _ => h
  | x :: l, y :: ys, s, s', h, hy => by
    rw [List.map_cons, dotA, dotA]
    refine low_le l ys _ _ ?_ fun z hz => hy z (List.mem_cons_of_mem _ hz)
    have h1 := Rat.mul_le_mul_of_nonneg_left (mq_le x) (hy y List.mem_cons_self)
    grind
theorem low_le0 {α : Type} : ∀ (l : List Rat) (ys : List α) (s : Rat), s ≤ 0 → dotA s (l.map mq) (ys.map fun _ => (1 : Rat)) ≤ 0
  | [], _, s, h => h
  | _ :: _, [], s, h => h
  | x :: l, y :: ys, s, h => by
    rw [List.map_cons, List.map_cons, dotA]
    refine low_le0 l ys _ ?_
    have := mq_le0 x
    grind
theorem ones_pos {α : Type} : ∀ (l : List α) (s : Rat), 0 < s → 0 < dotA s (l.map fun _ => (1 : Rat)) (l.map fun _ => (1 : Rat))
  | [], s, h => h
  | _ :: l, s, h => by
    rw [List.map_cons, dotA]
    exact ones_pos l _ (by grind)
theorem nn_all {xs : List Rat} (h : nonneg xs = true) : ∀ x ∈ xs, 0 ≤ x := fun x hx => by
  unfold nonneg at h
  exact of_decide_eq_true (List.all_eq_true.mp h x hx)
theorem nn_of {xs : List Rat} (h : ∀ x ∈ xs, 0 ≤ x) : nonneg xs = true := by
  unfold nonneg
  rw [List.all_eq_true]
  exact fun x hx => decide_eq_true (h x hx)
def lowR (rs : List Row) : List Row := rs.map fun r => (r.1.map mq, r.2)
section
variable {g xs ws : List Rat} {rs : List Row}
theorem growth_ok (h : Pap g rs xs ws) : sem PP 35 [eR rs, eV xs] = .ok (.bl true) := by
  have f := h.fit
  have g1 := h.g1
  have g4 := h.g4
  have r1 := h.r1
  have r5 := h.r5
  have xl := h.xl
  have fz0 : VSz 40 [(0 : Rat)] := vz_one (z0.mono (by omega))
  have fz1 : VSz 40 [(1 : Rat)] := vz_one (z1.mono (by omega))
  have ol : VSz 40 (xs.map fun _ => (1 : Rat)) := vz_ones (by omega) xs
  have oll : (xs.map fun _ => (1 : Rat)).length = xs.length := by simp
  have lz : RSz 40 (lowR rs) := fun r hr => by
    obtain ⟨q, hq, rfl⟩ := List.mem_map.mp hr
    obtain ⟨b1, b2, b3⟩ := f.rz q hq
    refine ⟨fun x hx => ?_, b2, by simpa using b3⟩
    obtain ⟨y, hy, rfl⟩ := List.mem_map.mp hx
    exact mq_sz (b1 y hy) (by omega)
  have lfl : ∀ r ∈ lowR rs, r.1.length = g.length := fun r hr => by
    obtain ⟨q, hq, rfl⟩ := List.mem_map.mp hr
    simpa using h.fl q hq
  have lne : lowR rs ≠ [] := by have := f.r0; simp [lowR, this]
  have lle : (lowR rs).length = rs.length := by simp [lowR]
  have Lz := longer_sz lz (by omega) fun r hr => by have := lfl r hr; omega
  have Ll := longer_len lfl
  have Ln := longer_ne lne
  have Lc : (longer (lowR rs)).length = rs.length := by simp [longer, lle]
  have a1 : sem PP 29 [eV (xs.map fun _ => (1 : Rat)), eR (lowR rs), eV xs, eV (xs.map fun _ => (1 : Rat))] = .ok (.bl true) := by
    have := m29 lz ol f.xz ol (by omega) (by omega) (by omega) (by omega)
    have e1 : (xs.length == (xs.map fun _ => (1 : Rat)).length) = true := by simp
    have e2 : ((xs.map fun _ => (1 : Rat)).length == (xs.map fun _ => (1 : Rat)).length) = true := by simp
    have e3 : ((lowR rs).all fun r => r.1.length == xs.length && decide (dot r.1 xs ≤ r.2)) = true := by
      rw [List.all_eq_true]
      intro r hr
      have e4 : (r.1.length == xs.length) = true := by simp [lfl r hr, xl]
      obtain ⟨q, hq, rfl⟩ := List.mem_map.mp hr
      rw [e4, Bool.true_and]
      refine decide_eq_true ?_
      have k1 := of_decide_eq_true (List.all_eq_true.mp h.kp q hq)
      have k2 := low_le q.1 xs 0 0 (by grind) (nn_all h.xp)
      unfold dot at k1 ⊢
      dsimp only
      grind
    have e5 : growS (xs.map fun _ => (1 : Rat)) (lowR rs) (xs.map fun _ => (1 : Rat)) = true := by
      have p1 : nonneg (xs.map fun _ => (1 : Rat)) = true := nn_of fun x hx => by
        obtain ⟨_, _, rfl⟩ := List.mem_map.mp hx
        decide +kernel
      have p2 : ((lowR rs).all fun r => decide (dot r.1 (xs.map fun _ => (1 : Rat)) ≤ 0)) = true := by
        rw [List.all_eq_true]
        intro r hr
        obtain ⟨q, hq, rfl⟩ := List.mem_map.mp hr
        exact decide_eq_true (low_le0 q.1 xs 0 (by grind))
      have p3 : decide (0 < dot (xs.map fun _ => (1 : Rat)) (xs.map fun _ => (1 : Rat))) = true := by
        refine decide_eq_true ?_
        cases xs with
        | nil => simp at xl; omega
        | cons x xs =>
          unfold dot
          rw [List.map_cons, dotA]
          exact ones_pos xs _ (by grind)
      unfold growS
      rw [p1, p2, p3]
      rfl
    rw [e1, e2, e3, e5, h.xp] at this
    exact this
  have a2 : sem PP 29 [eV (xs.map fun _ => (1 : Rat)), eR (longer (lowR rs)), eV xs, eV (xs.map fun _ => (1 : Rat))] = .ok (.bl false) := by
    have := m29 Lz ol f.xz ol (by omega) (by omega) (by omega) (by omega)
    rw [all_false_len Ln (fun r hr => by have := Ll r hr; omega), Bool.and_false, Bool.false_and, Bool.and_false, Bool.and_false] at this
    exact this
  have a3 : sem PP 29 [eV (xs.map fun _ => (1 : Rat)), eR (lowR rs), .lst (xs.map fr ++ [.tup [.int 0, .int 1]]), eV (xs.map fun _ => (1 : Rat))] = .ok (.bl false) := by
    have := m29 (xs := xs ++ [(0 : Rat)]) lz ol (vz_app f.xz fz0) ol (by omega) (by omega) (by simp; omega) (by omega)
    rw [neq_b (by simp : (xs ++ [(0 : Rat)]).length ≠ (xs.map fun _ => (1 : Rat)).length), Bool.false_and] at this
    rw [← fr0, show xs.map fr ++ [fr 0] = (xs ++ [(0 : Rat)]).map fr by simp]
    exact this
  have a4 : sem PP 29 [eV (xs.map fun _ => (1 : Rat)), eR (lowR rs), eV xs, .lst ((xs.map fun _ => (1 : Rat)).map fr ++ [.tup [.int 0, .int 1]])] = .ok (.bl false) := by
    have := m29 (gr := (xs.map fun _ => (1 : Rat)) ++ [(0 : Rat)]) lz ol f.xz (vz_app ol fz0) (by omega) (by omega) (by omega) (by simp; omega)
    rw [neq_b (by simp : ((xs.map fun _ => (1 : Rat)) ++ [(0 : Rat)]).length ≠ (xs.map fun _ => (1 : Rat)).length), Bool.false_and, Bool.and_false] at this
    rw [← fr0, show (xs.map fun _ => (1 : Rat)).map fr ++ [fr 0] = ((xs.map fun _ => (1 : Rat)) ++ [(0 : Rat)]).map fr by simp]
    exact this
  have a5 : sem PP 29 [eV (xs.map fun _ => (1 : Rat)), eR (lowR rs), eV xs, .lst ((xs.map fun _ => (1 : Rat)).map fr).tail] = .ok (.bl false) := by
    have := m29 (gr := (xs.map fun _ => (1 : Rat)).drop 1) lz ol f.xz (vz_drop ol) (by omega) (by omega) (by omega) (by simp; omega)
    rw [neq_b (by simp; omega : ((xs.map fun _ => (1 : Rat)).drop 1).length ≠ (xs.map fun _ => (1 : Rat)).length), Bool.false_and, Bool.and_false] at this
    rw [← List.drop_one, ← List.map_drop]
    exact this
  have a6 : sem PP 29 [.lst ((xs.map fun _ => (1 : Rat)).map fr ++ [.tup [.int 1, .int 1]]), eR (lowR rs), eV xs, eV (xs.map fun _ => (1 : Rat))] = .ok (.bl false) := by
    have := m29 (g := (xs.map fun _ => (1 : Rat)) ++ [(1 : Rat)]) lz (vz_app ol fz1) f.xz ol (by omega) (by simp; omega) (by omega) (by omega)
    rw [neq_b (by simp : xs.length ≠ ((xs.map fun _ => (1 : Rat)) ++ [(1 : Rat)]).length), Bool.false_and] at this
    rw [← fr1, show (xs.map fun _ => (1 : Rat)).map fr ++ [fr 1] = ((xs.map fun _ => (1 : Rat)) ++ [(1 : Rat)]).map fr by simp]
    exact this
  rw [sem_eq PP (j := 35) (F := f35) rfl]
  generalize hS : (fun i => if i < 35 then sem PP i else fun _ => R.bad) = S
  have hs : ∀ i, i < 35 → S i = sem PP i := fun i hi => by rw [← hS]; exact if_pos hi
  have h1 := hs 1 (by decide)
  have h13 := hs 13 (by decide)
  have h29 := hs 29 (by decide)
  have h33 := hs 33 (by decide)
  have mO : mapO (fun d => envO (bindT (.nm 7) d (wipeE [some (eR rs), some (eV xs), none, none, none, none, none, none, none] (Tg.nm 7).own)) fun env' => stepC (ev S env' f35e0)) (xs.map fr) = some ((xs.map fun _ => (1 : Rat)).map fr) := by
    rw [mapO_all (g := fun _ => fr 1)]
    · rw [List.map_map]; rfl
    · intro x _
      simp [bindT, envO, f35e0, ev, mkT, lim, stepC, fr1]
  have fl := forL_all (f := fun d e => optF (bindT (.nm 4) d e) fun e' => exec S e' f35b0) (enc := rw1 true)
    (fun done env => ∃ o, env = [some (eR rs), some (eV xs), some (eV (xs.map fun _ => (1 : Rat))), some (eR (lowR done)), o, none, none, none, none])
    rs [some (eR rs), some (eV xs), some (eV (xs.map fun _ => (1 : Rat))), some (.lst []), none, none, none, none, none] ⟨none, rfl⟩ (by
      rintro done r rest env e ⟨o, rfl⟩
      have hr : r ∈ rs := by rw [e]; simp
      obtain ⟨b1, b2, b3⟩ := f.rz r hr
      have hd : done.length < 1000000 := by
        have := congrArg List.length e
        simp at this
        omega
      have mm : mapO (fun d => envO (bindT (.nm 8) d (wipeE [some (eR rs), some (eV xs), some (eV (xs.map fun _ => (1 : Rat))), some (eR (lowR done)), some (rw1 true r), none, none, none, none] (Tg.nm 8).own)) fun env' => stepC (ev S env' f35e1)) (r.1.map fr) = some ((r.1.map mq).map fr) := by
        rw [mapO_all (g := fun q => fr (mq q))]
        · rw [List.map_map]; rfl
        · intro q hq
          have c := low (if 0 < q.num then 0 else q.num) q.den 40 (den_pos q) (by have := (b1 q hq).n; split <;> omega) (b1 q hq).d (by omega)
          rw [mq_eq] at c
          simp [bindT, envO, wipeE, Tg.own, f35e1, ev, fr, ixD, at0, at1, bltD, h1, stepC]
          rw [c]
          rfl
      have h50 : r.1.length ≤ 1000000 := by omega
      have a0 : ixD (rw1 true r) (.int 0) = .ok (.tup (r.1.map fr)) := rfl
      have a1 : ixD (rw1 true r) (.int 1) = .ok (fr r.2) := rfl
      refine ⟨[some (eR rs), some (eV xs), some (eV (xs.map fun _ => (1 : Rat))), some (eR (lowR (done ++ [r]))), some (rw1 true r), none, none, none, none], ?_, some (rw1 true r), rfl⟩
      show exec S [some (eR rs), some (eV xs), some (eV (xs.map fun _ => (1 : Rat))), some (eR (lowR done)), some (rw1 true r), none, none, none, none] f35b0 = _
      have hd2 : ((lowR done).map (rw1 true)).length < lim := by simp [lowR, lim]; exact hd
      simp [f35b0, exec, ev, a0, a1, itD, seqD, lcD, lim, h50, -List.map_map]
      rw [mm]
      have hd3 : (lowR done).length < 1000000 := by simp [lowR]; exact hd
      simp [bltD, mkT, lim, hd, lowR, rw1, eR])
  obtain ⟨e1, fl1, o4, fl2⟩ := fl
  have mL : mapO (fun d => envO (bindT (.nm 4) d (wipeE [some (eR rs), some (eV xs), some (eV (xs.map fun _ => (1 : Rat))), some (eR (lowR rs)), o4, none, none, none, none] (Tg.nm 4).own)) fun env' => stepC (ev S env' f35e2)) ((lowR rs).map (rw1 true)) = some ((longer (lowR rs)).map (rw1 true)) := by
    rw [mapO_all (g := fun r : Row => rw1 true (r.1 ++ [(0 : Rat)], r.2))]
    · unfold longer
      rw [List.map_map]; rfl
    · intro r hr
      have := (lz r hr).2.2
      have h2 : r.1.length + 1 ≤ 1000000 := by omega
      simp [bindT, envO, wipeE, Tg.own, f35e2, ev, rw1, ixD, at0, at1, binD, mkT, lim, stepC, h2, fr0]
  have r33 := allFalse_ok [.bl false, .bl false, .bl false, .bl false, .bl false] (by simp)
  have hl1 : rs.length ≤ 1000000 := by omega
  have hl2 : xs.length ≤ 1000000 := by omega
  have hl3 : xs.length + 1 ≤ 1000000 := by omega
  have hl4 : (lowR rs).length ≤ 1000000 := by omega
  have hl5 : xs.length ≤ 1000001 := by omega
  have bi : ∀ a b : List D, binD .add (.lst a) (.lst b) = mkL (a ++ b) := fun _ _ => rfl
  simp only [runF, f35, exec, ev]
  simp [itD, seqD, lcD, lim, hl2]
  rw [mO]
  simp [itD, seqD, mkL, lim, -List.map_map]
  rw [fl1, fl2]
  simp [bltD, h29, a1, h13, c13, itD, seqD, lcD, lim, hl4, -List.map_map]
  rw [mL]
  simp [bi, bltD, mkL, mkT, lim, hl3, hl2, hl5, h29, a2, a3, slO, intR, cut_one, a4, a5, a6, -List.map_map]
  simp only [h33, r33]
  rfl
end
end Pv.K01

namespace Pv.K01
open PySem PySem.Spec PyProof.Rows L2
theorem fr_int (x : Int) : fr (x : Rat) = .tup [.int x, .int 1] := rfl
theorem dot_lin (w : Rat) : ∀ (as bs ys : List Rat) (s t : Rat), as.length = bs.length → dotA (s + w * t) ((as.zip bs).map fun q => q.1 + w * q.2) ys = dotA s as ys + w * dotA t bs ys
  | [], [], _, s, t, _ => rfl
  | a :: as, b :: bs, [], s, t, _ => rfl
  | a :: as, b :: bs, y :: ys, s, t, h => by
    rw [List.zip_cons_cons, List.map_cons, dotA, dotA, dotA]
    have := dot_lin w as bs ys (s + a * y) (t + b * y) (by simpa using h)
    rw [← this]
    congr 1
    grind
theorem fold_dot (xs : List Rat) : ∀ (ps : List (Row × Rat)) (s : List Rat × Rat), (∀ p ∈ ps, p.1.1.length = s.1.length ∧ p.2 * p.1.2 = p.2 * dot p.1.1 xs) → s.2 = dot s.1 xs → (ps.foldl cstep s).2 = dot (ps.foldl cstep s).1 xs
  | [], s, _, h => h
  | p :: ps, s, hp, h => by
    obtain ⟨h1, h2⟩ := hp p List.mem_cons_self
    have hl : (cstep s p).1.length = s.1.length := by simp [cstep, h1]
    refine fold_dot xs ps (cstep s p) (fun q hq => by rw [hl]; exact hp q (List.mem_cons_of_mem _ hq)) ?_
    have := dot_lin p.2 s.1 p.1.1 xs 0 0 h1.symm
    have e0 : (0 : Rat) + p.2 * 0 = 0 := by grind
    rw [e0] at this
    show s.2 + p.2 * p.1.2 = dot ((s.1.zip p.1.1).map fun q => q.1 + p.2 * q.2) xs
    unfold dot at h h2 ⊢
    rw [this, h, h2]
theorem dot_zeros (n : Nat) : ∀ (ys : List Rat) (s : Rat), dotA s (List.replicate n 0) ys = s := by
  induction n with
  | zero => intro ys s; rfl
  | succ n ih =>
    intro ys s
    cases ys with
    | nil => rfl
    | cons y ys =>
      rw [List.replicate_succ, dotA, ih]
      grind
/-- items may differ where the other is nothing -/
theorem dot_off : ∀ (as bs ys : List Rat) (s : Rat), as.length = bs.length → (∀ (j : Nat) (h1 : j < as.length) (h2 : j < bs.length) (h3 : j < ys.length), as[j] = bs[j] ∨ ys[j] = 0) → dotA s as ys = dotA s bs ys
  | [], [], _, s, _, _ => rfl
  | a :: as, b :: bs, [], s, _, _ => rfl
  | a :: as, b :: bs, y :: ys, s, h, k => by
    rw [dotA, dotA]
    have e : s + a * y = s + b * y := by
      rcases k 0 (by simp) (by simp) (by simp) with z | z
      · have z : a = b := z
        rw [z]
      · have z : y = 0 := z
        rw [z]; grind
    rw [e]
    exact dot_off as bs ys _ (by simpa using h) fun j h1 h2 h3 => by
      have := k (j + 1) (by simpa using h1) (by simpa using h2) (by simpa using h3)
      simpa using this
theorem divInt_nn {n d : Int} (hn : 0 ≤ n) (hd : 0 < d) : 0 ≤ Rat.divInt n d := by
  rw [← Rat.num_nonneg, Rat.num_divInt, Int.sign_eq_one_of_pos hd, Int.one_mul]
  exact Int.ediv_nonneg hn (by omega)
/-- what is drawn from sixty digits -/
structure Dg (c : Int) (L : List Int) : Prop where
  ok : sem PP 0 [.int c, .int 60, .int 60] = .ok (.lst (L.map .int))
  len : L.length = 60
  bd : ∀ x ∈ L, 0 ≤ x ∧ x < 60
theorem dg (c : Int) : ∃ L, Dg c L := by
  obtain ⟨L, h1, h2, h3⟩ := digits_ok (P := PP) (j := 0) rfl c (b := 60) (n := 60) (by decide) (by decide) (by decide)
  exact ⟨L, h1, h2, h3⟩
def dI (L : List Int) (i : Int) : Int := (L[i.toNat]?).getD 0
section
variable {c : Int} {L : List Int}
theorem Dg.ix (h : Dg c L) (i : Int) (h0 : 0 ≤ i) (h1 : i < 60) : ixD (.lst (L.map .int)) (.int i) = .ok (.int (dI L i)) := by
  have hl := h.len
  have hi : i.toNat < L.length := by omega
  have := at_map (f := D.int) hi
  rw [Int.toNat_of_nonneg h0] at this
  show atD (L.map .int) i = _
  rw [this]
  unfold dI
  rw [List.getElem?_eq_getElem hi]
  rfl
theorem fm {x b : Int} (hb : 0 < b) : 0 ≤ x.fmod b ∧ x.fmod b < b := emod_bd x b hb
def mx (y : Int) : Int := if y > 0 then y else 0
theorem low_q (n d : Int) {k : Nat} (hd : 0 < d) (h1 : n.natAbs < 2 ^ k) (h2 : d.natAbs < 2 ^ k) (hk : k < 9000) : sem PP 1 [.int n, .int d] = .ok (fr (Rat.divInt n d)) ∧ Sz (Rat.divInt n d) k :=
  ⟨low n d k hd h1 h2 hk, sz_divInt (by omega) h1 h2⟩
theorem rng (n : Nat) (h : n ≤ 1000) : itD .rng [.int (n : Int)] = .ok (.tup ((List.range n).map fun k : Nat => D.int k)) := by
  have : rngOk (n : Int) = true := by unfold rngOk; simp; omega
  simp [itD, this]
theorem map_rng (n : Nat) (f : Nat → Rat) : ((List.range n).map fun j => fr (f j)) = ((List.range n).map f).map fr := by rw [List.map_map]; rfl
variable (L)
def pm : Nat := (1 + (dI L 0).fmod 4).toNat
def pc : Nat := (1 + (dI L 1).fmod 5).toNat
def pb : Int := 1 + (dI L 2).fmod 3
def pxs : List Rat := (List.range (pm L)).map fun j : Nat => Rat.divInt (mx ((dI L (3 + j)).fmod 6 - 1)) (pb L)
def pws : List Rat := (List.range (pc L)).map fun i : Nat => Rat.divInt (mx ((dI L (8 + i)).fmod 5 - 1)) (pb L)
def pmk (i : Nat) : List Rat := (List.range (pm L)).map fun j : Nat => Rat.divInt ((dI L (14 + 5 * i + j)).fmod 7 - 3) (pb L)
def pbd (i : Nat) : Rat := if ((pws L)[i]?.getD 0).num = 0 then dot (pmk L i) (pxs L) + ((dI L (18 + 5 * i)).fmod 3 : Int) else dot (pmk L i) (pxs L)
def prs : List Row := (List.range (pc L)).map fun i => (pmk L i, pbd L i)
def pS : List Rat := (comb (pm L) (prs L) (pws L)).1
def pad (k j : Nat) : Rat := if j < k ∧ ((pxs L)[j]?.getD 0).num = 0 then (pS L)[j]?.getD 0 - ((dI L (40 + j)).fmod 3 : Int) else (pS L)[j]?.getD 0
def pg (k : Nat) : List Rat := (List.range (pm L)).map (pad L k)
variable {L}
theorem pm_bd : 1 ≤ pm L ∧ pm L ≤ 4 ∧ ((pm L : Nat) : Int) = 1 + (dI L 0).fmod 4 := by
  have := fm (x := dI L 0) (b := 4) (by decide)
  unfold pm
  omega
theorem pc_bd : 1 ≤ pc L ∧ pc L ≤ 5 ∧ ((pc L : Nat) : Int) = 1 + (dI L 1).fmod 5 := by
  have := fm (x := dI L 1) (b := 5) (by decide)
  unfold pc
  omega
theorem pb_bd : 1 ≤ pb L ∧ pb L ≤ 3 := by
  have := fm (x := dI L 2) (b := 3) (by decide)
  unfold pb
  omega
theorem mx_bd {y : Int} {k : Int} (h : y ≤ k) (hk : 0 ≤ k) : 0 ≤ mx y ∧ mx y ≤ k := by
  unfold mx
  split <;> omega
theorem xs_z : VSz 3 (pxs L) ∧ nonneg (pxs L) = true ∧ (pxs L).length = pm L := by
  have hb := pb_bd (L := L)
  refine ⟨fun x hx => ?_, nn_of fun x hx => ?_, by simp [pxs]⟩
  · obtain ⟨j, hj, rfl⟩ := List.mem_map.mp hx
    have h1 := fm (x := dI L (3 + j)) (b := 6) (by decide)
    have h2 := mx_bd (y := (dI L (3 + j)).fmod 6 - 1) (k := 4) (by omega) (by decide)
    exact (low_q _ _ (by omega) (by omega) (by omega) (by decide)).2
  · obtain ⟨j, hj, rfl⟩ := List.mem_map.mp hx
    have h1 := fm (x := dI L (3 + j)) (b := 6) (by decide)
    have h2 := mx_bd (y := (dI L (3 + j)).fmod 6 - 1) (k := 4) (by omega) (by decide)
    exact divInt_nn h2.1 (by omega)
theorem ws_z : VSz 2 (pws L) ∧ nonneg (pws L) = true ∧ (pws L).length = pc L := by
  have hb := pb_bd (L := L)
  refine ⟨fun x hx => ?_, nn_of fun x hx => ?_, by simp [pws]⟩
  · obtain ⟨j, hj, rfl⟩ := List.mem_map.mp hx
    have h1 := fm (x := dI L (8 + j)) (b := 5) (by decide)
    have h2 := mx_bd (y := (dI L (8 + j)).fmod 5 - 1) (k := 3) (by omega) (by decide)
    exact (low_q _ _ (by omega) (by omega) (by omega) (by decide)).2
  · obtain ⟨j, hj, rfl⟩ := List.mem_map.mp hx
    have h1 := fm (x := dI L (8 + j)) (b := 5) (by decide)
    have h2 := mx_bd (y := (dI L (8 + j)).fmod 5 - 1) (k := 3) (by omega) (by decide)
    exact divInt_nn h2.1 (by omega)
theorem mk_z (i : Nat) : VSz 2 (pmk L i) ∧ (pmk L i).length = pm L := by
  have hb := pb_bd (L := L)
  refine ⟨fun x hx => ?_, by simp [pmk]⟩
  obtain ⟨j, hj, rfl⟩ := List.mem_map.mp hx
  have h1 := fm (x := dI L (14 + 5 * i + j)) (b := 7) (by decide)
  exact (low_q _ _ (by omega) (by omega) (by omega) (by decide)).2
theorem int_z {x : Int} (h0 : 0 ≤ x) (h1 : x < 3) : Sz (x : Rat) 2 := ⟨by show x.natAbs < 2 ^ 2; omega, by show 1 < 2 ^ 2; decide⟩
theorem bd_z (i : Nat) : Sz (pbd L i) 28 ∧ dot (pmk L i) (pxs L) ≤ pbd L i ∧ (((pws L)[i]?.getD 0) * pbd L i = ((pws L)[i]?.getD 0) * dot (pmk L i) (pxs L)) := by
  have hm := pm_bd (L := L)
  have z : Sz (dot (pmk L i) (pxs L)) 25 := (dot_sz (mk_z i).1 xs_z.1).mono (by
    rw [(mk_z i).2]
    have : pm L * (2 + 3 + 1) ≤ 4 * (2 + 3 + 1) := Nat.mul_le_mul_right _ (by omega)
    omega)
  have h1 := fm (x := dI L (18 + 5 * i)) (b := 3) (by decide)
  have iz := int_z h1.1 h1.2
  unfold pbd
  split
  · rename_i e
    have e0 : (pws L)[i]?.getD 0 = 0 := by
      have h1 : ¬ 0 < ((pws L)[i]?.getD 0).num := by omega
      have h2 : ¬ ((pws L)[i]?.getD 0).num < 0 := by omega
      have h1 := fun z => h1 (num_pos.mpr z)
      have h2 := fun z => h2 (num_neg.mpr z)
      exact Rat.le_antisymm (Rat.not_lt.mp h1) (Rat.not_lt.mp h2)
    refine ⟨(z.add iz).mono (by omega), ?_, by rw [e0]; grind⟩
    have : (0 : Rat) ≤ (((dI L (18 + 5 * i)).fmod 3 : Int) : Rat) := Rat.num_nonneg.mp h1.1
    grind
  · exact ⟨z.mono (by omega), by grind, rfl⟩
theorem rs_z : RSz 28 (prs L) ∧ (prs L).length = pc L ∧ (∀ r ∈ prs L, r.1.length = pm L) ∧ keeps (prs L) (pxs L) = true := by
  have hm := pm_bd (L := L)
  refine ⟨fun r hr => ?_, by simp [prs], fun r hr => ?_, ?_⟩
  · obtain ⟨i, hi, rfl⟩ := List.mem_map.mp hr
    exact ⟨vz_mono (mk_z i).1 (by omega), (bd_z i).1, by have := (mk_z (L := L) i).2; dsimp only; omega⟩
  · obtain ⟨i, hi, rfl⟩ := List.mem_map.mp hr
    exact (mk_z i).2
  · unfold keeps
    rw [List.all_eq_true]
    intro r hr
    obtain ⟨i, hi, rfl⟩ := List.mem_map.mp hr
    exact decide_eq_true (bd_z i).2.1
theorem S_z : VSz 26 (pS L) ∧ (pS L).length = pm L := by
  have hc := pc_bd (L := L)
  refine ⟨?_, comb_len rs_z.2.2.1⟩
  have hp : ∀ p ∈ (prs L).zip (pws L), VSz 2 p.1.1 ∧ Sz p.1.2 28 ∧ Sz p.2 2 := fun p hp => by
    have hz := List.of_mem_zip (a := p.1) (b := p.2) hp
    obtain ⟨i, hi, e⟩ := List.mem_map.mp hz.1
    rw [← e]
    exact ⟨(mk_z i).1, (bd_z i).1, ws_z.1 _ hz.2⟩
  -- the sums alone
  have go : ∀ (ps : List (Row × Rat)) (s : List Rat × Rat) (m : Nat), VSz m s.1 → (∀ p ∈ ps, VSz 2 p.1.1 ∧ Sz p.1.2 28 ∧ Sz p.2 2) → VSz (m + ps.length * 5) (ps.foldl cstep s).1 := by
    intro ps
    induction ps with
    | nil => intro s m h _; simpa using h
    | cons p ps ih =>
      intro s m h hp
      obtain ⟨a, b, d⟩ := hp p List.mem_cons_self
      have : VSz (m + 5) (cstep s p).1 := fun x hx => by
        obtain ⟨q, hq, rfl⟩ := List.mem_map.mp hx
        have hz := List.of_mem_zip (a := q.1) (b := q.2) hq
        exact ((h _ hz.1).add (d.mul (a _ hz.2))).mono (by omega)
      have := ih (cstep s p) (m + 5) this fun q hq => hp q (List.mem_cons_of_mem _ hq)
      rw [List.foldl_cons, List.length_cons]
      exact vz_mono this (by omega)
  have := go ((prs L).zip (pws L)) (List.replicate (pm L) 0, 0) 1 (zeros_sz _) hp
  refine vz_mono this ?_
  rw [List.length_zip, rs_z.2.1, ws_z.2.2]
  omega
end
end Pv.K01

namespace Pv.K01
open PySem PySem.Spec PyProof.Rows L2
section
variable {c : Int} {L : List Int}
theorem ws_at {i : Nat} (h : i < pc L) : ∃ h2 : i < (pws L).length, (pws L)[i]?.getD 0 = (pws L)[i] := by
  have h2 : i < (pws L).length := by rw [ws_z.2.2]; exact h
  exact ⟨h2, by rw [List.getElem?_eq_getElem h2]; rfl⟩
theorem xs_at {j : Nat} (h : j < pm L) : ∃ h2 : j < (pxs L).length, (pxs L)[j]?.getD 0 = (pxs L)[j] := by
  have h2 : j < (pxs L).length := by rw [xs_z.2.2]; exact h
  exact ⟨h2, by rw [List.getElem?_eq_getElem h2]; rfl⟩
theorem pg_len (k : Nat) : (pg L k).length = pm L := by simp [pg]
theorem pg0 : pg L 0 = pS L := by
  apply List.ext_getElem
  · rw [pg_len, S_z.2]
  · intro j h1 h2
    simp [pg, pad, List.getElem?_eq_getElem h2]
theorem pg_step {k : Nat} (hk : k < pm L) : pg L (k + 1) = (pg L k).set k (pad L (k + 1) k) := by
  apply List.ext_getElem
  · simp [pg_len]
  · intro j h1 h2
    rw [List.getElem_set]
    simp only [pg, List.getElem_map, List.getElem_range]
    by_cases e : k = j
    · subst e; simp
    · rw [if_neg e]
      unfold pad
      have : (j < k + 1) ↔ j < k := by omega
      simp only [this]
theorem pg_z (k : Nat) : VSz 29 (pg L k) := fun x hx => by
  obtain ⟨j, hj, rfl⟩ := List.mem_map.mp hx
  have hj := List.mem_range.mp hj
  have h2 : j < (pS L).length := by rw [S_z.2]; exact hj
  have z := S_z.1 _ (List.getElem_mem h2)
  have h1 := fm (x := dI L (40 + j)) (b := 3) (by decide)
  unfold pad
  rw [List.getElem?_eq_getElem h2]
  split
  · exact (z.sub (int_z h1.1 h1.2)).mono (by omega)
  · exact z.mono (by omega)
theorem papers_pap : Pap (pg L (pm L)) (prs L) (pxs L) (pws L) := by
  have hm := pm_bd (L := L)
  have hc := pc_bd (L := L)
  have gl := pg_len (L := L) (pm L)
  have cb : (comb (pg L (pm L)).length (prs L) (pws L)) = comb (pm L) (prs L) (pws L) := by rw [gl]
  refine ⟨by omega, by omega, by rw [rs_z.2.1]; omega, by rw [rs_z.2.1]; omega, by rw [xs_z.2.2, gl], by rw [ws_z.2.2, rs_z.2.1], by rw [gl]; exact rs_z.2.2.1, rz_mono rs_z.1 (by omega), vz_mono (pg_z _) (by omega), xs_z.1, ws_z.1, xs_z.2.1, ws_z.2.1, rs_z.2.2.2, ?_, ?_⟩
  · rw [cb]
    unfold covers
    rw [List.all_eq_true]
    intro p hp
    obtain ⟨j, hj, e⟩ := List.mem_iff_getElem.mp hp
    rw [List.length_zip] at hj
    have h1 : j < (pg L (pm L)).length := by omega
    have h2 : j < (comb (pm L) (prs L) (pws L)).1.length := by omega
    rw [← e, List.getElem_zip]
    refine decide_eq_true ?_
    dsimp only
    have h3 : j < (pS L).length := h2
    have e1 : (pg L (pm L))[j] = pad L (pm L) j := by simp [pg]
    rw [e1]
    unfold pad
    rw [List.getElem?_eq_getElem h3]
    have q := fm (x := dI L (40 + j)) (b := 3) (by decide)
    have q0 : (0 : Rat) ≤ (((dI L (40 + j)).fmod 3 : Int) : Rat) := Rat.num_nonneg.mp q.1
    show _ ≤ (pS L)[j]
    split <;> simp only [Option.getD_some] <;> grind
  · rw [cb]
    have fd := fold_dot (pxs L) ((prs L).zip (pws L)) (List.replicate (pm L) 0, 0) (fun p hp => by
      obtain ⟨i, hi, e⟩ := List.mem_iff_getElem.mp hp
      rw [List.length_zip, rs_z.2.1, ws_z.2.2] at hi
      have hi2 : i < pc L := by omega
      obtain ⟨w1, w2⟩ := ws_at hi2
      have r1 : i < (prs L).length := by rw [rs_z.2.1]; exact hi2
      rw [List.getElem_zip] at e
      have e3 : (prs L)[i] = (pmk L i, pbd L i) := by simp [prs]
      rw [← e]
      dsimp only
      rw [e3, ← w2]
      exact ⟨by rw [(mk_z i).2]; simp, (bd_z i).2.2⟩) (by unfold dot; rw [dot_zeros])
    have off : dot (pg L (pm L)) (pxs L) = dot (pS L) (pxs L) := dot_off _ _ _ 0 (by rw [gl, S_z.2]) fun j h1 h2 h3 => by
      have e1 : (pg L (pm L))[j] = pad L (pm L) j := by simp [pg]
      rw [e1]
      unfold pad
      rw [List.getElem?_eq_getElem h2, List.getElem?_eq_getElem h3]
      split
      · rename_i z
        right
        have z := z.2
        simp only [Option.getD_some] at z
        have z1 : ¬ 0 < ((pxs L)[j]).num := by omega
        have z2 : ¬ ((pxs L)[j]).num < 0 := by omega
        have z1 := fun k => z1 (num_pos.mpr k)
        have z2 := fun k => z2 (num_neg.mpr k)
        exact Rat.le_antisymm (Rat.not_lt.mp z1) (Rat.not_lt.mp z2)
      · left; rfl
    rw [off]
    have : (comb (pm L) (prs L) (pws L)).2 = dot (pS L) (pxs L) := fd
    rw [this]
    grind
theorem mapO_rng {f : D → Option (Option D)} (n : Nat) (g : Nat → Rat) (h : ∀ j, j < n → f (.int (j : Int)) = some (some (fr (g j)))) : mapO f ((List.range n).map fun k : Nat => D.int k) = some (((List.range n).map g).map fr) := by
  rw [mapO_all (g := fun j => fr (g j)) _ fun j hj => h j (List.mem_range.mp hj), map_rng]
theorem papers_ok (h : Dg c L) : sem PP 7 [.int c] = .ok (.tup [eV (pg L (pm L)), eR (prs L), eV (pxs L), eV (pws L)]) := by
  have hm := pm_bd (L := L)
  have hc := pc_bd (L := L)
  have hb := pb_bd (L := L)
  rw [sem_eq PP (j := 7) (F := f7) rfl]
  generalize hS : (fun i => if i < 7 then sem PP i else fun _ => R.bad) = S
  have hs : ∀ i, i < 7 → S i = sem PP i := fun i hi => by rw [← hS]; exact if_pos hi
  have h0 := hs 0 (by decide)
  have h1 := hs 1 (by decide)
  have h2 := hs 2 (by decide)
  have h4 := hs 4 (by decide)
  have h5 := hs 5 (by decide)
  have h6 := hs 6 (by decide)
  have i0 := h.ix 0 (by decide) (by decide)
  have i1 := h.ix 1 (by decide) (by decide)
  have i2 := h.ix 2 (by decide) (by decide)
  have rm := rng (pm L) (by omega)
  have rc := rng (pc L) (by omega)
  have lm : pm L ≤ 1000000 := by omega
  have lc : pc L ≤ 1000000 := by omega
  have m5 : mapO (fun d => envO (bindT (.nm 10) d (wipeE [some (.int c), some (.lst (L.map .int)), some (.int (pm L : Int)), some (.int (pc L : Int)), some (.int (pb L)), none, none, none, none, none, none, none, none] (Tg.nm 10).own)) fun env' => stepC (ev S env' f7e0)) ((List.range (pm L)).map fun k : Nat => D.int k) = some ((pxs L).map fr) :=
    mapO_rng _ _ fun j hj => by
      have q := h.ix (3 + j) (by omega) (by omega)
      have k1 := fm (x := dI L (3 + j)) (b := 6) (by decide)
      have k2 := mx_bd (y := (dI L (3 + j)).fmod 6 - 1) (k := 4) (by omega) (by decide)
      have k3 := (low_q (mx ((dI L (3 + j)).fmod 6 - 1)) (pb L) (k := 3) (by omega) (by omega) (by omega) (by decide)).1
      unfold mx at k3 ⊢
      simp [bindT, envO, wipeE, Tg.own, f7e0, ev, binD, q, bltD, h1, stepC] at k3 ⊢
      rw [k3]
  have m6 : mapO (fun d => envO (bindT (.nm 8) d (wipeE [some (.int c), some (.lst (L.map .int)), some (.int (pm L : Int)), some (.int (pc L : Int)), some (.int (pb L)), some (eV (pxs L)), none, none, none, none, none, none, none] (Tg.nm 8).own)) fun env' => stepC (ev S env' f7e1)) ((List.range (pc L)).map fun k : Nat => D.int k) = some ((pws L).map fr) :=
    mapO_rng _ _ fun j hj => by
      have q := h.ix (8 + j) (by omega) (by omega)
      have k1 := fm (x := dI L (8 + j)) (b := 5) (by decide)
      have k2 := mx_bd (y := (dI L (8 + j)).fmod 5 - 1) (k := 3) (by omega) (by decide)
      have k3 := (low_q (mx ((dI L (8 + j)).fmod 5 - 1)) (pb L) (k := 3) (by omega) (by omega) (by omega) (by decide)).1
      unfold mx at k3 ⊢
      simp [bindT, envO, wipeE, Tg.own, f7e1, ev, binD, q, bltD, h1, stepC] at k3 ⊢
      rw [k3]
  have fl := forL_all (f := fun d e => optF (bindT (.nm 8) d e) fun e' => exec S e' f7b0) (enc := fun k : Nat => D.int k)
    (fun done env => ∃ o8 o11 o12, env = [some (.int c), some (.lst (L.map .int)), some (.int (pm L : Int)), some (.int (pc L : Int)), some (.int (pb L)), some (eV (pxs L)), some (eV (pws L)), some (eR (done.map fun i => (pmk L i, pbd L i))), o8, none, none, o11, o12])
    (List.range (pc L)) [some (.int c), some (.lst (L.map .int)), some (.int (pm L : Int)), some (.int (pc L : Int)), some (.int (pb L)), some (eV (pxs L)), some (eV (pws L)), some (.lst []), none, none, none, none, none] ⟨none, none, none, rfl⟩ (by
      rintro done i rest env e ⟨o8, o11, o12, rfl⟩
      have hi := range_at e
      have hic : i < pc L := by
        have : i ∈ List.range (pc L) := by rw [e]; simp
        exact List.mem_range.mp this
      have mm : mapO (fun d => envO (bindT (.nm 10) d (wipeE [some (.int c), some (.lst (L.map .int)), some (.int (pm L : Int)), some (.int (pc L : Int)), some (.int (pb L)), some (eV (pxs L)), some (eV (pws L)), some (eR (done.map fun i => (pmk L i, pbd L i))), some (.int (i : Int)), none, none, o11, o12] (Tg.nm 10).own)) fun env' => stepC (ev S env' f7e2)) ((List.range (pm L)).map fun k : Nat => D.int k) = some ((pmk L i).map fr) :=
        mapO_rng _ _ fun j hj => by
          have q := h.ix (14 + 5 * i + j) (by omega) (by omega)
          have k1 := fm (x := dI L (14 + 5 * i + j)) (b := 7) (by decide)
          have k3 := (low_q ((dI L (14 + 5 * i + j)).fmod 7 - 3) (pb L) (k := 3) (by omega) (by omega) (by omega) (by decide)).1
          have mo : mulOk 5 (i : Int) = true := mulOk_of (k := 10) (l := 10) (by decide) (by omega) (by decide)
          simp [bindT, envO, wipeE, Tg.own, f7e2, ev, binD, q, bltD, h1, stepC, mo, k3]
      have z1 := (mk_z (L := L) i)
      have c4 : sem PP 4 [eV (pmk L i), eV (pxs L)] = .ok (fr (dot (pmk L i) (pxs L))) := s4 false false _ _ 2 3 z1.1 xs_z.1 (by rw [z1.2, xs_z.2.2]) (by omega) (by rw [z1.2]; have : (pm L + 1) * (2 + 3 + 1) ≤ 5 * (2 + 3 + 1) := Nat.mul_le_mul_right _ (by omega); omega)
      have dz : Sz (dot (pmk L i) (pxs L)) 1000 := (dot_sz z1.1 xs_z.1).mono (by
        rw [z1.2]
        have : pm L * (2 + 3 + 1) ≤ 4 * (2 + 3 + 1) := Nat.mul_le_mul_right _ (by omega)
        omega)
      obtain ⟨w1, w2⟩ := ws_at hic
      have aw : ixD (.lst ((pws L).map fr)) (.int (i : Int)) = .ok (fr (pws L)[i]) := at_map w1
      have aw2 : ixD (fr (pws L)[i]) (.int 0) = .ok (.int (pws L)[i].num) := rfl
      have q := h.ix (18 + 5 * i) (by omega) (by omega)
      have k1 := fm (x := dI L (18 + 5 * i)) (b := 3) (by decide)
      have c2 := s2 _ _ 1000 2 dz (int_z k1.1 k1.2) (by omega)
      rw [fr_int] at c2
      have mo : mulOk 5 (i : Int) = true := mulOk_of (k := 10) (l := 10) (by decide) (by omega) (by decide)
      have hd : done.length < 1000000 := by omega
      have h50 : (pmk L i).length ≤ 1000000 := by rw [z1.2]; omega
      refine ⟨[some (.int c), some (.lst (L.map .int)), some (.int (pm L : Int)), some (.int (pc L : Int)), some (.int (pb L)), some (eV (pxs L)), some (eV (pws L)), some (eR ((done ++ [i]).map fun i => (pmk L i, pbd L i))), some (.int (i : Int)), none, none, some (eV (pmk L i)), some (fr (pbd L i))], ?_, _, _, _, rfl⟩
      show exec S [some (.int c), some (.lst (L.map .int)), some (.int (pm L : Int)), some (.int (pc L : Int)), some (.int (pb L)), some (eV (pxs L)), some (eV (pws L)), some (eR (done.map fun i => (pmk L i, pbd L i))), some (.int (i : Int)), none, none, o11, o12] f7b0 = _
      simp [f7b0, exec, ev, rm, lcD, lim, lm, -List.map_map]
      rw [mm]
      by_cases hz : (pws L)[i].num = 0
      · have hz2 : ((pws L)[i].num == 0) = true := by simp [hz]
        have e3 : pbd L i = dot (pmk L i) (pxs L) + ((dI L (18 + 5 * i)).fmod 3 : Int) := by unfold pbd; rw [w2, if_pos hz]
        rw [e3]
        simp [h4, c4, aw, aw2, cmpD, eqD_int, hz, binD, mo, q, bltD, mkT, lim, h2, c2, hd, h50, rw1, eR, e3, -List.map_map]
      · have hz2 : ((pws L)[i].num == 0) = false := by simp [hz]
        have e3 : pbd L i = dot (pmk L i) (pxs L) := by unfold pbd; rw [w2, if_neg hz]
        rw [e3]
        simp [h4, c4, aw, aw2, cmpD, eqD_int, hz2, binD, mo, q, bltD, mkT, lim, h2, c2, hd, h50, rw1, eR, e3, -List.map_map])
  obtain ⟨e1, fl1, o8, o11, o12, fl2⟩ := fl
  have c5 : sem PP 5 [.int (pm L : Int), eR (prs L), eV (pws L)] = .ok (.tup [eV (pS L), fr (comb (pm L) (prs L) (pws L)).2]) :=
    s5 false true false (pm L) (prs L) (pws L) 28 2 rs_z.1 ws_z.1 (by rw [rs_z.2.1]; omega) (by omega) (by omega) rs_z.2.2.1 (by rw [ws_z.2.2, rs_z.2.1])
  have a5 : ixD (.tup [eV (pS L), fr (comb (pm L) (prs L) (pws L)).2]) (.int 0) = .ok (eV (pS L)) := rfl
  have gf := forL_all (f := fun d e => optF (bindT (.nm 10) d e) fun e' => exec S e' f7b1) (enc := fun k : Nat => D.int k)
    (fun done env => ∃ o10, env = [some (.int c), some (.lst (L.map .int)), some (.int (pm L : Int)), some (.int (pc L : Int)), some (.int (pb L)), some (eV (pxs L)), some (eV (pws L)), some (eR (prs L)), o8, some (eV (pg L done.length)), o10, o11, o12])
    (List.range (pm L)) [some (.int c), some (.lst (L.map .int)), some (.int (pm L : Int)), some (.int (pc L : Int)), some (.int (pb L)), some (eV (pxs L)), some (eV (pws L)), some (eR (prs L)), o8, some (eV (pg L 0)), none, o11, o12] ⟨none, rfl⟩ (by
      rintro done j rest env e ⟨o10, rfl⟩
      have hj := range_at e
      have hjm : j < pm L := by
        have : j ∈ List.range (pm L) := by rw [e]; simp
        exact List.mem_range.mp this
      have hdl : (done ++ [j]).length = j + 1 := by simp [hj]
      rw [← hj, hdl, pg_step hjm]
      obtain ⟨x1, x2⟩ := xs_at hjm
      have ax : ixD (.lst ((pxs L).map fr)) (.int (j : Int)) = .ok (fr (pxs L)[j]) := at_map x1
      have ax2 : ixD (fr (pxs L)[j]) (.int 0) = .ok (.int (pxs L)[j].num) := rfl
      have g1 : j < (pg L j).length := by rw [pg_len]; exact hjm
      have ag : ixD (.lst ((pg L j).map fr)) (.int (j : Int)) = .ok (fr (pg L j)[j]) := at_map g1
      have s1 : j < (pS L).length := by rw [S_z.2]; exact hjm
      have eg : (pg L j)[j] = (pS L)[j] := by simp [pg, pad, List.getElem?_eq_getElem s1]
      have q := h.ix (40 + j) (by omega) (by omega)
      have k1 := fm (x := dI L (40 + j)) (b := 3) (by decide)
      have c6 := s6 (S_z.1 _ (List.getElem_mem s1)) (int_z k1.1 k1.2) (by omega)
      rw [fr_int] at c6
      have hn : L2.ixN (pg L j).length (j : Int) = some j := by
        unfold L2.ixN
        rw [if_pos (by omega), if_pos (by omega)]
        simp
      by_cases hz : (pxs L)[j].num = 0
      · have e3 : pad L (j + 1) j = (pS L)[j] - ((dI L (40 + j)).fmod 3 : Int) := by
          unfold pad
          rw [x2, if_pos ⟨by omega, hz⟩, List.getElem?_eq_getElem s1]; rfl
        refine ⟨[some (.int c), some (.lst (L.map .int)), some (.int (pm L : Int)), some (.int (pc L : Int)), some (.int (pb L)), some (eV (pxs L)), some (eV (pws L)), some (eR (prs L)), o8, some (eV ((pg L j).set j (pad L (j + 1) j))), some (.int (j : Int)), o11, o12], ?_, _, rfl⟩
        rw [e3]
        simp [bindT, optF, f7b1, exec, ev, ax, ax2, cmpD, eqD_int, hz, ag, eg, binD, q, bltD, mkT, lim, h6, c6, hn, List.map_set]
      · have hz2 : ((pxs L)[j].num == 0) = false := by simp [hz]
        have e3 : pad L (j + 1) j = (pg L j)[j] := by
          unfold pad
          rw [x2, if_neg fun z => hz z.2, List.getElem?_eq_getElem s1, eg]; rfl
        refine ⟨[some (.int c), some (.lst (L.map .int)), some (.int (pm L : Int)), some (.int (pc L : Int)), some (.int (pb L)), some (eV (pxs L)), some (eV (pws L)), some (eR (prs L)), o8, some (eV ((pg L j).set j (pad L (j + 1) j))), some (.int (j : Int)), o11, o12], ?_, _, rfl⟩
        rw [e3, List.set_getElem_self]
        simp [bindT, optF, f7b1, exec, ev, ax, ax2, cmpD, eqD_int, hz2])
  obtain ⟨e2, gf1, o10, gf2⟩ := gf
  rw [pg0] at gf1
  have er : (List.range (pc L)).map (fun i => (pmk L i, pbd L i)) = prs L := rfl
  rw [er] at fl2
  rw [List.length_range] at gf2
  simp only [runF, f7, exec, ev]
  simp [h0, h.ok, i0, i1, i2, bltD, binD, ← pm_bd.2.2, ← pc_bd.2.2, rm, rc, lcD, lim, lm, lc]
  have ep : 1 + (dI L 2).fmod 3 = pb L := rfl
  rw [ep, m5]
  simp [rm, rc, lcD, lim, lm, lc, -List.map_map]
  rw [m6]
  simp [rm, rc, mkL, lim, -List.map_map]
  rw [fl1, fl2]
  simp [h5, c5, a5, rm, -List.map_map]
  rw [gf1, gf2]
  simp [mkT, lim, Fl.out]
/-! ### the lines of the second cell -/
variable (L)
def lc' : Nat := ((dI L 1).fmod 7).toNat
def lo' : Int := (dI L 3).fmod 5
def lg : List Rat := (List.range (pm L)).map fun j : Nat => Rat.divInt ((dI L (4 + j)).fmod 9 - 3) (pb L)
def lmk (i : Nat) : List Rat := (List.range (pm L)).map fun j : Nat => Rat.divInt ((dI L (10 + 6 * i + j)).fmod 7 - lo' L) (pb L)
def lbd (i : Nat) : Rat := Rat.divInt ((dI L (15 + 6 * i)).fmod 13 - lo' L) (1 + (dI L 9).fmod 2)
def lrs : List Row := (List.range (lc' L)).map fun i => (lmk L i, lbd L i)
variable {L}
theorem lc_bd : lc' L ≤ 6 ∧ ((lc' L : Nat) : Int) = (dI L 1).fmod 7 := by
  have := fm (x := dI L 1) (b := 7) (by decide)
  unfold lc'
  omega
theorem lmk_z (i : Nat) : VSz 3 (lmk L i) ∧ (lmk L i).length = pm L := by
  have hb := pb_bd (L := L)
  refine ⟨fun x hx => ?_, by simp [lmk]⟩
  obtain ⟨j, hj, rfl⟩ := List.mem_map.mp hx
  have h1 := fm (x := dI L (10 + 6 * i + j)) (b := 7) (by decide)
  have h2 := fm (x := dI L 3) (b := 5) (by decide)
  exact (low_q _ _ (by omega) (by unfold lo'; omega) (by omega) (by decide)).2
theorem lbd_z (i : Nat) : Sz (lbd L i) 4 := by
  have h1 := fm (x := dI L (15 + 6 * i)) (b := 13) (by decide)
  have h2 := fm (x := dI L 3) (b := 5) (by decide)
  have h3 := fm (x := dI L 9) (b := 2) (by decide)
  exact (low_q _ _ (by omega) (by unfold lo'; omega) (by omega) (by decide)).2
theorem lrs_z : RSz 40 (lrs L) ∧ (lrs L).length = lc' L ∧ (∀ r ∈ lrs L, r.1.length = pm L) := by
  have hm := pm_bd (L := L)
  refine ⟨fun r hr => ?_, by simp [lrs], fun r hr => ?_⟩
  · obtain ⟨i, hi, rfl⟩ := List.mem_map.mp hr
    exact ⟨vz_mono (lmk_z i).1 (by omega), (lbd_z i).mono (by omega), by have := (lmk_z (L := L) i).2; dsimp only; omega⟩
  · obtain ⟨i, hi, rfl⟩ := List.mem_map.mp hr
    exact (lmk_z i).2
theorem lines_ok (h : Dg c L) : sem PP 8 [.int c] = .ok (.tup [eV (lg L), eR (lrs L)]) := by
  have hm := pm_bd (L := L)
  have hc := lc_bd (L := L)
  have hb := pb_bd (L := L)
  rw [sem_eq PP (j := 8) (F := f8) rfl]
  generalize hS : (fun i => if i < 8 then sem PP i else fun _ => R.bad) = S
  have hs : ∀ i, i < 8 → S i = sem PP i := fun i hi => by rw [← hS]; exact if_pos hi
  have h0 := hs 0 (by decide)
  have h1 := hs 1 (by decide)
  have i0 := h.ix 0 (by decide) (by decide)
  have i1 := h.ix 1 (by decide) (by decide)
  have i2 := h.ix 2 (by decide) (by decide)
  have i3 := h.ix 3 (by decide) (by decide)
  have i9 := h.ix 9 (by decide) (by decide)
  have rm := rng (pm L) (by omega)
  have rc := rng (lc' L) (by omega)
  have lm : pm L ≤ 1000000 := by omega
  have lo := fm (x := dI L 3) (b := 5) (by decide)
  have h9 := fm (x := dI L 9) (b := 2) (by decide)
  have m5 : mapO (fun d => envO (bindT (.nm 9) d (wipeE [some (.int c), some (.lst (L.map .int)), some (.int (pm L : Int)), some (.int (pb L)), some (.int (lo' L)), none, none, none, none, none] (Tg.nm 9).own)) fun env' => stepC (ev S env' f8e0)) ((List.range (pm L)).map fun k : Nat => D.int k) = some ((lg L).map fr) :=
    mapO_rng _ _ fun j hj => by
      have q := h.ix (4 + j) (by omega) (by omega)
      have k1 := fm (x := dI L (4 + j)) (b := 9) (by decide)
      have k3 := (low_q ((dI L (4 + j)).fmod 9 - 3) (pb L) (k := 3) (by omega) (by omega) (by omega) (by decide)).1
      simp [bindT, envO, wipeE, Tg.own, f8e0, ev, binD, q, bltD, h1, stepC, k3]
  have fl := forL_all (f := fun d e => optF (bindT (.nm 7) d e) fun e' => exec S e' f8b0) (enc := fun k : Nat => D.int k)
    (fun done env => ∃ o7 o8, env = [some (.int c), some (.lst (L.map .int)), some (.int (pm L : Int)), some (.int (pb L)), some (.int (lo' L)), some (eV (lg L)), some (eR (done.map fun i => (lmk L i, lbd L i))), o7, o8, none])
    (List.range (lc' L)) [some (.int c), some (.lst (L.map .int)), some (.int (pm L : Int)), some (.int (pb L)), some (.int (lo' L)), some (eV (lg L)), some (.lst []), none, none, none] ⟨none, none, rfl⟩ (by
      rintro done i rest env e ⟨o7, o8, rfl⟩
      have hi := range_at e
      have hic : i < lc' L := by
        have : i ∈ List.range (lc' L) := by rw [e]; simp
        exact List.mem_range.mp this
      have mo : mulOk 6 (i : Int) = true := mulOk_of (k := 10) (l := 10) (by decide) (by omega) (by decide)
      have mm : mapO (fun d => envO (bindT (.nm 9) d (wipeE [some (.int c), some (.lst (L.map .int)), some (.int (pm L : Int)), some (.int (pb L)), some (.int (lo' L)), some (eV (lg L)), some (eR (done.map fun i => (lmk L i, lbd L i))), some (.int (i : Int)), o8, none] (Tg.nm 9).own)) fun env' => stepC (ev S env' f8e1)) ((List.range (pm L)).map fun k : Nat => D.int k) = some ((lmk L i).map fr) :=
        mapO_rng _ _ fun j hj => by
          have q := h.ix (10 + 6 * i + j) (by omega) (by omega)
          have k1 := fm (x := dI L (10 + 6 * i + j)) (b := 7) (by decide)
          have k3 := (low_q ((dI L (10 + 6 * i + j)).fmod 7 - lo' L) (pb L) (k := 3) (by omega) (by unfold lo'; omega) (by omega) (by decide)).1
          simp [bindT, envO, wipeE, Tg.own, f8e1, ev, binD, q, bltD, h1, stepC, mo, k3]
      have z1 := (lmk_z (L := L) i)
      have q := h.ix (15 + 6 * i) (by omega) (by omega)
      have k1 := fm (x := dI L (15 + 6 * i)) (b := 13) (by decide)
      have k3 := (low_q ((dI L (15 + 6 * i)).fmod 13 - lo' L) (1 + (dI L 9).fmod 2) (k := 4) (by omega) (by unfold lo'; omega) (by omega) (by decide)).1
      have hd : done.length < 1000000 := by omega
      have h50 : (lmk L i).length ≤ 1000000 := by rw [z1.2]; omega
      refine ⟨[some (.int c), some (.lst (L.map .int)), some (.int (pm L : Int)), some (.int (pb L)), some (.int (lo' L)), some (eV (lg L)), some (eR ((done ++ [i]).map fun i => (lmk L i, lbd L i))), some (.int (i : Int)), some (eV (lmk L i)), none], ?_, _, _, rfl⟩
      show exec S [some (.int c), some (.lst (L.map .int)), some (.int (pm L : Int)), some (.int (pb L)), some (.int (lo' L)), some (eV (lg L)), some (eR (done.map fun i => (lmk L i, lbd L i))), some (.int (i : Int)), o8, none] f8b0 = _
      simp [f8b0, exec, ev, rm, lcD, lim, lm, -List.map_map]
      rw [mm]
      have e3 : lbd L i = Rat.divInt ((dI L (15 + 6 * i)).fmod 13 - lo' L) (1 + (dI L 9).fmod 2) := rfl
      rw [e3]
      simp [h1, binD, mo, q, i9, k3, bltD, mkT, lim, hd, h50, rw1, eR, e3, -List.map_map])
  obtain ⟨e1, fl1, o7, o8, fl2⟩ := fl
  have er : (List.range (lc' L)).map (fun i => (lmk L i, lbd L i)) = lrs L := rfl
  rw [er] at fl2
  simp only [runF, f8, exec, ev]
  simp [h0, h.ok, i0, i1, i2, i3, bltD, binD, ← pm_bd.2.2, rm, lcD, lim, lm]
  have ep : 1 + (dI L 2).fmod 3 = pb L := rfl
  have el : (dI L 3).fmod 5 = lo' L := rfl
  rw [ep, el, m5]
  simp [i1, bltD, binD, ← lc_bd.2, rc, mkL, lim, -List.map_map]
  rw [fl1, fl2]
  simp [mkT, lim, Fl.out]
end
end Pv.K01

namespace Pv.K01
open PySem PySem.Spec PyProof.Rows L2
def q7 : Rat := ⟨-1, 7, by decide, by decide⟩
def bys : List Rat := [0, 1, -1, q7]
theorem bys_z : ∀ q ∈ bys, Sz q 3 := fun q hq => by
  simp [bys] at hq
  rcases hq with rfl | rfl | rfl | rfl
  · exact z0
  · exact z1
  · exact zm1
  · exact ⟨by decide, by decide⟩
theorem bar_eq {rs : List Row} {ws : List Rat} {n : Nat} (hf : ∀ r ∈ rs, r.1.length = n) (hl : ws.length = rs.length) : barFull rs ws = (!rs.isEmpty && barS n rs ws) := by
  cases rs with
  | nil => rfl
  | cons r0 r =>
    have e0 : r0.1.length = n := hf r0 List.mem_cons_self
    have e1 : (ws.length == (r0 :: r).length) = true := by simp [hl]
    have e2 : ((r0 :: r).all fun q => q.1.length == n) = true := by
      rw [List.all_eq_true]
      intro q hq
      simp [hf q hq]
    unfold barFull
    dsimp only
    rw [e1, e0, e2, Bool.true_and, Bool.true_and]
    rfl
theorem vz_set {k : Nat} {xs : List Rat} {x : Rat} (h : VSz k xs) (hx : Sz x k) (i : Nat) : VSz k (xs.set i x) := fun y hy => (List.mem_or_eq_of_mem_set hy).elim (h y) fun e => by rw [e]; exact hx
section
variable {g xs ws : List Rat} {rs : List Row}
theorem Fit.setG (f : Fit g rs xs ws) {i : Nat} {x : Rat} (hx : Sz x 40) : Fit (g.set i x) rs xs ws :=
  ⟨f.r0, f.rl, by simpa using f.gl, by simpa using f.xl, f.wl, by simpa using f.fl, f.rz, vz_set f.gz hx i, f.xz, f.wz⟩
theorem Fit.setX (f : Fit g rs xs ws) {i : Nat} {x : Rat} (hx : Sz x 40) : Fit g rs (xs.set i x) ws :=
  ⟨f.r0, f.rl, f.gl, by simpa using f.xl, f.wl, f.fl, f.rz, f.gz, vz_set f.xz hx i, f.wz⟩
theorem Fit.setW (f : Fit g rs xs ws) {i : Nat} {x : Rat} (hx : Sz x 40) : Fit g rs xs (ws.set i x) :=
  ⟨f.r0, f.rl, f.gl, f.xl, by simpa using f.wl, f.fl, f.rz, f.gz, f.xz, vz_set f.wz hx i⟩
theorem Fit.setR (f : Fit g rs xs ws) {i : Nat} (hi : i < rs.length) {x : Rat} (hx : Sz x 40) : Fit g (rs.set i (rs[i].1, x)) xs ws :=
  ⟨by intro e; exact f.r0 (by simpa using e), by simpa using f.rl, f.gl, f.xl, by simpa using f.wl, fun r hr => (List.mem_or_eq_of_mem_set hr).elim (f.fl r) fun e => by rw [e]; exact f.fl rs[i] (List.getElem_mem hi),
    fun r hr => (List.mem_or_eq_of_mem_set hr).elim (f.rz r) fun e => by rw [e]; exact ⟨(f.rz _ (List.getElem_mem hi)).1, hx, (f.rz _ (List.getElem_mem hi)).2.2⟩, f.gz, f.xz, f.wz⟩
theorem Fit.more (f : Fit g rs xs ws) (h : rs.length ≤ 49) : Fit g (rs ++ [((g.map fun _ => (1 : Rat)), (-1 : Rat))]) xs ((rs.map fun _ => (0 : Rat)) ++ [(1 : Rat)]) :=
  ⟨by simp, by simp; omega, f.gl, f.xl, by simp, fun r hr => (List.mem_append.mp hr).elim (f.fl r) fun e => by rw [List.mem_singleton] at e; rw [e]; simp,
    fun r hr => (List.mem_append.mp hr).elim (f.rz r) fun e => by
      rw [List.mem_singleton] at e
      rw [e]
      exact ⟨vz_ones (by omega) g, zm1.mono (by omega), by have := f.gl; simpa using this⟩, f.gz, f.xz, vz_app (vz_zeros (by omega) rs) (vz_one (z1.mono (by omega)))⟩
end
theorem math (ns : List Int) (hn : ns.length ≤ 63) (hb : ∀ z ∈ ns, Builtin.Int.intBits z ≤ 1048576) : sem PP 37 [.scr ns] = .ok (.bl true) := by
  obtain ⟨L, hL⟩ := dg (ns.getD 0 0)
  obtain ⟨M, hM⟩ := dg (ns.getD 1 0)
  have hp := papers_ok hL
  have hll := lines_ok hM
  have P := papers_pap (L := L)
  generalize pg L (pm L) = g at hp P
  generalize prs L = rs at hp P
  generalize pxs L = xs at hp P
  generalize pws L = ws at hp P
  have f := P.fit
  have g1 := P.g1
  have g4 := P.g4
  have r1 := P.r1
  have r5 := P.r5
  have xl := P.xl
  have wl := P.wl
  have k0 : sem PP 31 [.scr ns, .int 0] = .ok (.int (ns.getD 0 0)) := cell_ok rfl ns 0
  have k1 : sem PP 31 [.scr ns, .int 1] = .ok (.int (ns.getD 1 0)) := cell_ok rfl ns 1
  have c4 : sem PP 4 [eV g, eV xs] = .ok (fr (dot g xs)) := s4 false false g xs 40 40 f.gz f.xz xl.symm (by omega) (by
    have : (g.length + 1) * (40 + 40 + 1) ≤ 5 * (40 + 40 + 1) := Nat.mul_le_mul_right _ (by omega)
    omega)
  have c25 := P.most
  have c32 := short_ok P
  have c34 := unlike_ok P
  have c35 := growth_ok P
  have dz := P.dz
  have dz' : Sz (dot g xs) 4100 := dz.mono (by omega)
  rw [sem_eq PP (j := 37) (F := f37) rfl]
  generalize hS : (fun i => if i < 37 then sem PP i else fun _ => R.bad) = S
  have hs : ∀ i, i < 37 → S i = sem PP i := fun i hi => by rw [← hS]; exact if_pos hi
  have h2 := hs 2 (by decide)
  have h4 := hs 4 (by decide)
  have h7 := hs 7 (by decide)
  have h8 := hs 8 (by decide)
  have h13 := hs 13 (by decide)
  have h25 := hs 25 (by decide)
  have h26 := hs 26 (by decide)
  have h27 := hs 27 (by decide)
  have h30 := hs 30 (by decide)
  have h31 := hs 31 (by decide)
  have h32 := hs 32 (by decide)
  have h34 := hs 34 (by decide)
  have h35 := hs 35 (by decide)
  have h36 := hs 36 (by decide)
  let D1 : D := .tup [eV g, eR rs, eV xs, eV ws]
  have rg := rng g.length (by omega)
  have rr := rng rs.length (by omega)
  -- the turns over the bent papers
  have in0 : ∀ (q : Rat), q ∈ bys → ∀ (o11 o12 : Option D), ∃ o11', forL (fun d e => optF (bindT (.nm 11) d e) fun e' => exec S e' f37b0) ((List.range g.length).map fun k : Nat => D.int k) [some (.scr ns), some D1, some (eV g), some (eR rs), some (eV xs), some (eV ws), some (fr (dot g xs)), some (fr q), none, none, none, o11, o12, none] =
      .nx [some (.scr ns), some D1, some (eV g), some (eR rs), some (eV xs), some (eV ws), some (fr (dot g xs)), some (fr q), none, none, none, o11', o12, none] := fun q hq o11 o12 => by
    have qz := bys_z q hq
    obtain ⟨e1, a1, o, a2⟩ := forL_all (f := fun d e => optF (bindT (.nm 11) d e) fun e' => exec S e' f37b0) (enc := fun k : Nat => D.int k)
      (fun done env => ∃ o, env = [some (.scr ns), some D1, some (eV g), some (eR rs), some (eV xs), some (eV ws), some (fr (dot g xs)), some (fr q), none, none, none, o, o12, none])
      (List.range g.length) _ ⟨o11, rfl⟩ (by
        rintro done k rest env e ⟨o, rfl⟩
        have hk : k < g.length := by
          have : k ∈ List.range g.length := by rw [e]; simp
          exact List.mem_range.mp this
        have hk2 : k < xs.length := by omega
        have b1 := bent_ok hk (vz_mono f.gz (by omega)) (qz.mono (by omega))
        have b2 := bent_ok hk2 (vz_mono f.xz (by omega)) (qz.mono (by omega))
        have a1 := asked_ok (f.setG (i := k) (((P.gz _ (List.getElem_mem hk)).add qz).mono (by omega))) dz'
        have a2 := asked_ok (f.setX (i := k) (((P.xz _ (List.getElem_mem hk2)).add qz).mono (by omega))) dz'
        refine ⟨[some (.scr ns), some D1, some (eV g), some (eR rs), some (eV xs), some (eV ws), some (fr (dot g xs)), some (fr q), none, none, none, some (.int (k : Int)), o12, none], ?_, _, rfl⟩
        simp [bindT, optF, f37b0, exec, ev, h36, b1, b2, h30, a1, a2])
    exact ⟨o, by rw [a1, a2]⟩
  have in1 : ∀ (q : Rat), q ∈ bys → ∀ (o11 o12 : Option D), ∃ o11' o12', forL (fun d e => optF (bindT (.nm 11) d e) fun e' => exec S e' f37b1) ((List.range rs.length).map fun k : Nat => D.int k) [some (.scr ns), some D1, some (eV g), some (eR rs), some (eV xs), some (eV ws), some (fr (dot g xs)), some (fr q), none, none, none, o11, o12, none] =
      .nx [some (.scr ns), some D1, some (eV g), some (eR rs), some (eV xs), some (eV ws), some (fr (dot g xs)), some (fr q), none, none, none, o11', o12', none] := fun q hq o11 o12 => by
    have qz := bys_z q hq
    obtain ⟨e1, a1, o, o', a2⟩ := forL_all (f := fun d e => optF (bindT (.nm 11) d e) fun e' => exec S e' f37b1) (enc := fun k : Nat => D.int k)
      (fun done env => ∃ o o', env = [some (.scr ns), some D1, some (eV g), some (eR rs), some (eV xs), some (eV ws), some (fr (dot g xs)), some (fr q), none, none, none, o, o', none])
      (List.range rs.length) _ ⟨o11, o12, rfl⟩ (by
        rintro done k rest env e ⟨o, o', rfl⟩
        have hk : k < rs.length := by
          have : k ∈ List.range rs.length := by rw [e]; simp
          exact List.mem_range.mp this
        have hk2 : k < ws.length := by omega
        have rz := P.rz _ (List.getElem_mem hk)
        have b2 := bent_ok hk2 (vz_mono f.wz (by omega)) (qz.mono (by omega))
        have c2 := s2 rs[k].2 q 30 3 rz.2.1 qz (by omega)
        have ar : ixD (.lst (rs.map (rw1 true))) (.int (k : Int)) = .ok (rw1 true rs[k]) := at_map hk
        have ar0 : ixD (rw1 true rs[k]) (.int 0) = .ok (.tup (rs[k].1.map fr)) := rfl
        have ar1 : ixD (rw1 true rs[k]) (.int 1) = .ok (fr rs[k].2) := rfl
        have hn : L2.ixN rs.length (k : Int) = some k := by
          unfold L2.ixN
          rw [if_pos (by omega), if_pos (by omega)]
          simp
        have a1 := asked_ok (f.setR hk ((rz.2.1.add qz).mono (by omega))) dz'
        have a2 := asked_ok (f.setW (i := k) (((P.wz _ (List.getElem_mem hk2)).add qz).mono (by omega))) dz'
        have es : (rs.map (rw1 true)).set k (.tup [.tup (rs[k].1.map fr), fr (rs[k].2 + q)]) = (rs.set k (rs[k].1, rs[k].2 + q)).map (rw1 true) := by rw [List.map_set]; rfl
        refine ⟨[some (.scr ns), some D1, some (eV g), some (eR rs), some (eV xs), some (eV ws), some (fr (dot g xs)), some (fr q), none, none, none, some (.int (k : Int)), some (eR (rs.set k (rs[k].1, rs[k].2 + q))), none], ?_, _, _, rfl⟩
        simp [bindT, optF, f37b1, exec, ev, bltD, ar, ar0, ar1, h2, c2, mkT, lim, hn, es, h36, b2, h30, a1, a2, -List.map_set])
    exact ⟨o, o', by rw [a1, a2]⟩
  obtain ⟨e1, fl1, o7, o11, o12, fl2⟩ := forL_all (f := fun d e => optF (bindT (.nm 7) d e) fun e' => exec S e' f37b2) (enc := fr)
    (fun done env => ∃ o7 o11 o12, env = [some (.scr ns), some D1, some (eV g), some (eR rs), some (eV xs), some (eV ws), some (fr (dot g xs)), o7, none, none, none, o11, o12, none])
    bys [some (.scr ns), some D1, some (eV g), some (eR rs), some (eV xs), some (eV ws), some (fr (dot g xs)), none, none, none, none, none, none, none] ⟨none, none, none, rfl⟩ (by
      rintro done q rest env e ⟨o7, o11, o12, rfl⟩
      have hq : q ∈ bys := by rw [e]; simp
      have qz := bys_z q hq
      have c2 := s2 (dot g xs) q 4000 3 dz qz (by omega)
      have a1 := asked_ok f (v := dot g xs + q) ((dz.add qz).mono (by omega))
      obtain ⟨p11, j0⟩ := in0 q hq o11 o12
      obtain ⟨p11', p12, j1⟩ := in1 q hq p11 o12
      refine ⟨[some (.scr ns), some D1, some (eV g), some (eR rs), some (eV xs), some (eV ws), some (fr (dot g xs)), some (fr q), none, none, none, p11', p12, none], ?_, _, _, _, rfl⟩
      show exec S [some (.scr ns), some D1, some (eV g), some (eR rs), some (eV xs), some (eV ws), some (fr (dot g xs)), some (fr q), none, none, none, o11, o12, none] f37b2 = _
      simp [f37b2, exec, ev, h2, c2, h30, a1, bltD, rg, rr]
      rw [j0]
      simp [bltD, rr]
      rw [j1]
      rfl)
  have eb : bys.map fr = [.tup [.int 0, .int 1], .tup [.int 1, .int 1], .tup [.int (-1), .int 1], .tup [.int (-1), .int 7]] := rfl
  rw [eb] at fl1
  have d0 : ixD (.tup [eV g, eR rs, eV xs, eV ws]) (.int 0) = .ok (eV g) := rfl
  have d1 : ixD (.tup [eV g, eR rs, eV xs, eV ws]) (.int 1) = .ok (eR rs) := rfl
  have d2 : ixD (.tup [eV g, eR rs, eV xs, eV ws]) (.int 2) = .ok (eV xs) := rfl
  have d3 : ixD (.tup [eV g, eR rs, eV xs, eV ws]) (.int 3) = .ok (eV ws) := rfl
  simp only [D1] at fl1 fl2
  have lz := lrs_z (L := M)
  have lb := lc_bd (L := M)
  have ll : (lrs M).length ≤ 6 := by rw [lz.2.1]; exact lb.1
  have pb := pm_bd (L := M)
  have lgl : (lg M).length = pm M := by simp [lg]
  generalize lrs M = qs at hll lz ll
  generalize lg M = lgg at hll lgl
  have q0 : ixD (.tup [eV lgg, eR qs]) (.int 0) = .ok (eV lgg) := rfl
  have q1 : ixD (.tup [eV lgg, eR qs]) (.int 1) = .ok (eR qs) := rfl
  have m13 : mapO (fun d => envO (bindT (.nm 13) d (wipeE [some (.scr ns), some (.tup [eV g, eR rs, eV xs, eV ws]), some (eV g), some (eR rs), some (eV xs), some (eV ws), some (fr (dot g xs)), o7, some (.tup [eV lgg, eR qs]), none, none, o11, o12, none] (Tg.nm 13).own)) fun env' => stepC (ev S env' f37e1)) (qs.map (rw1 true)) = some ((qs.map fun _ => (1 : Rat)).map fr) := by
    rw [mapO_all (g := fun _ => fr 1)]
    · rw [List.map_map]; rfl
    · intro x _
      simp [bindT, envO, f37e1, ev, mkT, lim, stepC, fr1]
  have m11 : mapO (fun d => envO (bindT (.nm 11) d (wipeE [some (.scr ns), some (.tup [eV g, eR rs, eV xs, eV ws]), some (eV g), some (eR rs), some (eV xs), some (eV ws), some (fr (dot g xs)), o7, some (.tup [eV lgg, eR qs]), none, none, o11, o12, none] (Tg.nm 11).own)) fun env' => stepC (ev S env' f37e0)) ((List.range qs.length).map fun k : Nat => D.int k) = some (((List.range qs.length).map fun k : Nat => ((k : Int) : Rat)).map fr) :=
    mapO_rng _ _ fun j hj => by
      have hi : 11 < 14 := by decide
      rw [fr_int]
      have hw : (wipeE [some (.scr ns), some (.tup [eV g, eR rs, eV xs, eV ws]), some (eV g), some (eR rs), some (eV xs), some (eV ws), some (fr (dot g xs)), o7, some (.tup [eV lgg, eR qs]), none, none, o11, o12, none] (Tg.nm 11).own) = [some (.scr ns), some (.tup [eV g, eR rs, eV xs, eV ws]), some (eV g), some (eR rs), some (eV xs), some (eV ws), some (fr (dot g xs)), o7, some (.tup [eV lgg, eR qs]), none, none, none, o12, none] := rfl
      rw [hw]
      simp [bindT, envO, f37e0, ev, mkT, lim, stepC]
  have l2 := forL_all (f := fun d e => optF (bindT (.nm 9) d e) fun e' => exec S e' f37b3) (enc := fun r : List Rat => eV r)
    (fun done env => ∃ o9, env = [some (.scr ns), some (.tup [eV g, eR rs, eV xs, eV ws]), some (eV g), some (eR rs), some (eV xs), some (eV ws), some (fr (dot g xs)), o7, some (.tup [eV lgg, eR qs]), o9, none, o11, o12, none])
    [qs.map fun _ => (1 : Rat), (List.range qs.length).map fun k : Nat => ((k : Int) : Rat)] [some (.scr ns), some (.tup [eV g, eR rs, eV xs, eV ws]), some (eV g), some (eR rs), some (eV xs), some (eV ws), some (fr (dot g xs)), o7, some (.tup [eV lgg, eR qs]), none, none, o11, o12, none] ⟨none, rfl⟩ (by
      rintro done r rest env e ⟨o9, rfl⟩
      have hm : r ∈ [qs.map fun _ => (1 : Rat), (List.range qs.length).map fun k : Nat => ((k : Int) : Rat)] := by rw [e]; simp
      have hr : VSz 40 r ∧ r.length = qs.length := by
        rw [List.mem_cons, List.mem_singleton] at hm
        rcases hm with rfl | rfl
        · exact ⟨vz_ones (by omega) qs, by simp⟩
        · refine ⟨fun x hx => ?_, by simp⟩
          obtain ⟨k, hk, rfl⟩ := List.mem_map.mp hx
          have hk := List.mem_range.mp hk
          refine Sz.mono (k := 3) ⟨?_, by show 1 < 2 ^ 3; decide⟩ (by omega)
          show (k : Int).natAbs < 2 ^ 3
          omega
      have c26 := m26 lz.1 hr.1 (by omega)
      rw [bar_eq lz.2.2 hr.2] at c26
      have c27 := lawBars_ok (P := PP) (j := 27) (jn := 9) (jc := 5) rfl (by decide) (by decide) s9 s5 true false (pm M) qs r 40 40 lz.1 hr.1 (by omega) (by omega) (by omega) lz.2.2 hr.2
      have c27' : sem PP 27 [.int (lgg.length : Int), eR qs, eV r] = .ok (.bl (!qs.isEmpty && barS (pm M) qs r)) := by rw [lgl]; exact c27
      refine ⟨[some (.scr ns), some (.tup [eV g, eR rs, eV xs, eV ws]), some (eV g), some (eR rs), some (eV xs), some (eV ws), some (fr (dot g xs)), o7, some (.tup [eV lgg, eR qs]), some (eV r), none, o11, o12, none], ?_, _, rfl⟩
      simp [bindT, optF, f37b3, exec, ev, q0, q1, h26, c26, bltD, h27, c27', h13, c13])
  obtain ⟨e3, l3, o9, l4⟩ := l2
  simp only [List.map_cons, List.map_nil] at l3
  have m13' : mapO (fun d => envO (bindT (.nm 13) d (wipeE [some (.scr ns), some (.tup [eV g, eR rs, eV xs, eV ws]), some (eV g), some (eR rs), some (eV xs), some (eV ws), some (fr (dot g xs)), o7, some (.tup [eV lgg, eR qs]), o9, none, o11, o12, none] (Tg.nm 13).own)) fun env' => stepC (ev S env' f37e1)) (g.map fr) = some ((g.map fun _ => (1 : Rat)).map fr) := by
    rw [mapO_all (g := fun _ => fr 1)]
    · rw [List.map_map]; rfl
    · intro x _
      simp [bindT, envO, f37e1, ev, mkT, lim, stepC, fr1]
  have m13z : mapO (fun d => envO (bindT (.nm 13) d (wipeE [some (.scr ns), some (.tup [eV g, eR rs, eV xs, eV ws]), some (eV g), some (eR rs), some (eV xs), some (eV ws), some (fr (dot g xs)), o7, some (.tup [eV lgg, eR qs]), o9, some (.tup [.tup ((g.map fun _ => (1 : Rat)).map fr), .tup [.int (-1), .int 1]]), o11, o12, none] (Tg.nm 13).own)) fun env' => stepC (ev S env' f37e2)) (rs.map (rw1 true)) = some ((rs.map fun _ => (0 : Rat)).map fr) := by
    rw [mapO_all (g := fun _ => fr 0)]
    · rw [List.map_map]; rfl
    · intro x _
      simp [bindT, envO, f37e2, ev, mkT, lim, stepC, fr0]
  have fin := asked_ok (f.more (by omega)) dz'
  have e5 : eR (rs ++ [((g.map fun _ => (1 : Rat)), (-1 : Rat))]) = .lst (rs.map (rw1 true) ++ [.tup [.tup ((g.map fun _ => (1 : Rat)).map fr), .tup [.int (-1), .int 1]]]) := by
    unfold eR
    rw [List.map_append]; rfl
  have e6 : eV ((rs.map fun _ => (0 : Rat)) ++ [(1 : Rat)]) = .lst ((rs.map fun _ => (0 : Rat)).map fr ++ [.tup [.int 1, .int 1]]) := by
    unfold eV
    rw [List.map_append]; rfl
  rw [e5, e6] at fin
  have rq := rng qs.length (by omega)
  have bi : ∀ a b : List D, binD .add (.lst a) (.lst b) = mkL (a ++ b) := fun _ _ => rfl
  have t1 : qs.length ≤ 1000000 := by omega
  have t2 : g.length ≤ 1000000 := by omega
  have t3 : rs.length ≤ 1000000 := by omega
  have t4 : rs.length + 1 ≤ 1000000 := by omega
  simp only [runF, f37, exec, ev]
  simp [h31, k0, h7, hp, d0, d1, d2, d3, h4, c4, h25, c25, h32, c32, h34, c34, h35, c35, mkT, mkL, lim, itD, seqD, -List.getD_eq_getElem?_getD]
  rw [fl1, fl2]
  simp [h31, k1, h8, hll, q1, itD, seqD, lcD, lim, t1, -List.getD_eq_getElem?_getD, -List.map_map]
  rw [m13]
  simp [q1, bltD, rq, lcD, lim, t1, -List.map_map]
  rw [m11]
  simp [mkL, lim, itD, seqD, -List.map_map]
  rw [l3, l4]
  simp [itD, seqD, lcD, lim, t2, -List.map_map]
  rw [m13']
  simp [bltD, mkT, lim, itD, seqD, lcD, t3, -List.map_map]
  rw [m13z]
  simp [bi, mkL, mkT, lim, t4, h30, fin, Fl.out, -List.map_map]
end Pv.K01

namespace Pv.K01
open PySem PySem.Spec PyProof.Rows L2
def G : Gt := ⟨ds.map (·.name), ds.map (·.ps), ds.map (·.F.ty), ["abs", "bool", "int", "isinstance", "len", "list", "max", "min", "range", "tuple", "zip"], [("ZERO", (.tup [(.int 0), (.int 1)]))], true, 0⟩
theorem chk : chkL G 0 ds = true := by decide +kernel
theorem bd0 : BindOk d0 := fun K f fd F => F.bindsN fun _ _ _ _ _ _ us hl => match us, hl with | [_, _, _], _ => rfl
theorem bd1 : BindOk d1 := fun K f fd F => F.bindsN fun _ _ _ _ _ _ us hl => match us, hl with | [_, _], _ => rfl
theorem bd2 : BindOk d2 := fun K f fd F => F.bindsN fun _ _ _ _ _ _ us hl => match us, hl with | [_, _], _ => rfl
theorem bd3 : BindOk d3 := fun K f fd F => F.bindsN fun _ _ _ _ _ _ us hl => match us, hl with | [_, _], _ => rfl
theorem bd4 : BindOk d4 := fun K f fd F => F.bindsN fun _ _ _ _ _ _ us hl => match us, hl with | [_, _], _ => rfl
theorem bd5 : BindOk d5 := fun K f fd F => F.bindsN fun _ _ _ _ _ _ us hl => match us, hl with | [_, _, _], _ => rfl
theorem bd6 : BindOk d6 := fun K f fd F => F.bindsN fun _ _ _ _ _ _ us hl => match us, hl with | [_, _], _ => rfl
theorem bd7 : BindOk d7 := fun K f fd F => F.bindsN fun _ _ _ _ _ _ us hl => match us, hl with | [_], _ => rfl
theorem bd8 : BindOk d8 := fun K f fd F => F.bindsN fun _ _ _ _ _ _ us hl => match us, hl with | [_], _ => rfl
theorem bd9 : BindOk d9 := fun K f fd F => F.bindsN fun _ _ _ _ _ _ us hl => match us, hl with | [_], _ => rfl
theorem bd10 : BindOk d10 := fun K f fd F => F.bindsN fun _ _ _ _ _ _ us hl => match us, hl with | [_, _], _ => rfl
theorem bd11 : BindOk d11 := fun K f fd F => F.bindsN fun _ _ _ _ _ _ us hl => match us, hl with | [_, _], _ => rfl
theorem bd12 : BindOk d12 := fun K f fd F => F.bindsN fun _ _ _ _ _ _ us hl => match us, hl with | [_, _, _, _], _ => rfl
theorem bd13 : BindOk d13 := fun K f fd F => F.bindsN fun _ _ _ _ _ _ us hl => match us, hl with | [_, _], _ => rfl
theorem bd14 : BindOk d14 := fun K f fd F => F.bindsN fun _ _ _ _ _ _ us hl => match us, hl with | [_, _], _ => rfl
theorem bd15 : BindOk d15 := fun K f fd F => F.bindsN fun _ _ _ _ _ _ us hl => match us, hl with | [_], _ => rfl
theorem bd16 : BindOk d16 := fun K f fd F => (F.binds1 (ps := d16.ps) 2 1 (fun h => by simp [d16] at h) rfl fun _ _ _ _ _ _ _ us its h1 h2 => match us, its, h1, h2 with | [_, _], [_], _, _ => ⟨_, rfl, rfl⟩).elim fun e h => (by cases h.1; exact h.2)
theorem bd17 : BindOk d17 := fun K f fd F => F.bindsN fun _ _ _ _ _ _ us hl => match us, hl with | [_, _], _ => rfl
theorem bd18 : BindOk d18 := fun K f fd F => F.bindsN fun _ _ _ _ _ _ us hl => match us, hl with | [_], _ => rfl
theorem bd19 : BindOk d19 := fun K f fd F => F.bindsN fun _ _ _ _ _ _ us hl => match us, hl with | [_, _], _ => rfl
theorem bd20 : BindOk d20 := fun K f fd F => F.bindsN fun _ _ _ _ _ _ us hl => match us, hl with | [_, _], _ => rfl
theorem bd21 : BindOk d21 := fun K f fd F => F.bindsN fun _ _ _ _ _ _ us hl => match us, hl with | [_, _], _ => rfl
theorem bd22 : BindOk d22 := fun K f fd F => F.bindsN fun _ _ _ _ _ _ us hl => match us, hl with | [_, _, _], _ => rfl
theorem bd23 : BindOk d23 := fun K f fd F => F.bindsN fun _ _ _ _ _ _ us hl => match us, hl with | [_, _], _ => rfl
theorem bd24 : BindOk d24 := fun K f fd F => F.bindsN fun _ _ _ _ _ _ us hl => match us, hl with | [_, _, _, _], _ => rfl
theorem bd25 : BindOk d25 := fun K f fd F => F.bindsN fun _ _ _ _ _ _ us hl => match us, hl with | [_, _, _, _], _ => rfl
theorem bd26 : BindOk d26 := fun K f fd F => F.bindsN fun _ _ _ _ _ _ us hl => match us, hl with | [_, _], _ => rfl
theorem bd27 : BindOk d27 := fun K f fd F => F.bindsN fun _ _ _ _ _ _ us hl => match us, hl with | [_, _, _], _ => rfl
theorem bd28 : BindOk d28 := fun K f fd F => F.bindsN fun _ _ _ _ _ _ us hl => match us, hl with | [_, _, _], _ => rfl
theorem bd29 : BindOk d29 := fun K f fd F => F.bindsN fun _ _ _ _ _ _ us hl => match us, hl with | [_, _, _, _], _ => rfl
theorem bd30 : BindOk d30 := fun K f fd F => F.bindsN fun _ _ _ _ _ _ us hl => match us, hl with | [_, _, _, _, _], _ => rfl
theorem bd31 : BindOk d31 := fun K f fd F => F.bindsN fun _ _ _ _ _ _ us hl => match us, hl with | [_, _], _ => rfl
theorem bd32 : BindOk d32 := fun K f fd F => F.bindsN fun _ _ _ _ _ _ us hl => match us, hl with | [_, _, _, _], _ => rfl
theorem bd33 : BindOk d33 := fun K f fd F => F.bindsN fun _ _ _ _ _ _ us hl => match us, hl with | [_], _ => rfl
theorem bd34 : BindOk d34 := fun K f fd F => F.bindsN fun _ _ _ _ _ _ us hl => match us, hl with | [_, _, _, _], _ => rfl
theorem bd35 : BindOk d35 := fun K f fd F => F.bindsN fun _ _ _ _ _ _ us hl => match us, hl with | [_, _], _ => rfl
theorem bd36 : BindOk d36 := fun K f fd F => F.bindsN fun _ _ _ _ _ _ us hl => match us, hl with | [_, _, _], _ => rfl
theorem bd37 : BindOk d37 := fun K f fd F => F.bindsN fun _ _ _ _ _ _ us hl => match us, hl with | [_], _ => rfl
theorem bds : AllB ds := .cons bd0 (.cons bd1 (.cons bd2 (.cons bd3 (.cons bd4 (.cons bd5 (.cons bd6 (.cons bd7 (.cons bd8 (.cons bd9 (.cons bd10 (.cons bd11 (.cons bd12 (.cons bd13 (.cons bd14 (.cons bd15 (.cons bd16 (.cons bd17 (.cons bd18 (.cons bd19 (.cons bd20 (.cons bd21 (.cons bd22 (.cons bd23 (.cons bd24 (.cons bd25 (.cons bd26 (.cons bd27 (.cons bd28 (.cons bd29 (.cons bd30 (.cons bd31 (.cons bd32 (.cons bd33 (.cons bd34 (.cons bd35 (.cons bd36 (.cons bd37 (.nil))))))))))))))))))))))))))))))))))))))
def loose0 : List Str := ["gcd", "SettleError", "BadNumber", "ZERO", "frac", "plus", "times", "below", "at_most", "total", "scalar", "none_below", "meets", "combined", "shows_bar", "shows_bound", "shows_most", "shows_endless", "_law_cell", "_law_digits"]
def loose1 : List Str := ["_law_lowest", "_law_plus", "_law_minus", "_law_times", "_law_less", "_law_is_truth", "_law_scalar", "_law_no_less", "_law_meets", "_law_summed", "_law_bounds_goal", "_law_bars", "_law_grows", "_law_lines", "_law_papers", "_law_bent", "_law_asked", "_law_short_ones", "_law_all_false", "_law_unlike"]
def loose2 : List Str := ["_law_unlike_growth"]
abbrev loose : List Str := loose0 ++ loose1 ++ loose2
abbrev R : PySem.W.OpenRow := PySem.W.OpenLaw.row PySem.Challenge.rw_dealsformany_k01_line_papers_are_judged
abbrev fa : List He.Fa := faL G ds
abbrev fn : List He.DefD := ds.map DI.dd
abbrev ex (K : PySem.W.Frag) : Bool := gfB K G.gl G.gc
abbrev hk : PySem.W.Hook := He.hookX 4 fa fn [] [] ex
def ob (s : PySem.W.SharedT) : He.AlX := He.obsX 4 fa fn [] [] ex (HandSHeadRun.getT s)
theorem ob_eq (s : PySem.W.SharedT) : ob s = hk.obs s.abs := He.obsX_eq (HandSHeadRun.getT_eq s)
set_option maxHeartbeats 0 in
theorem run (w : World) : HandSHeadRun.RunEqI R (PySem.W.view R.prog [0, 45]) hk ob 4000 loose w := by
  unfold HandSHeadRun.RunEqI
  kernel_rfl
theorem mathL (n : List Int) (h : n.length ≤ 63) (hb : ∀ z ∈ n, Builtin.Int.intBits z ≤ 1048576) : sem (ds.map (·.F)) 37 [.scr n] = .ok (.bl true) := math n h hb
end Pv.K01
open PySem PySem.W PySem.Calls PyProof.Rows
set_option maxHeartbeats 0 in
theorem PySem.Challenge.cw_dealsformany_k01_line_papers_are_judged_holds : PySem.Challenge.rw_dealsformany_k01_line_papers_are_judged.Holds := by
  w_on; o_law
  refine HandSHeadRun.head_imp (r := OpenLaw.row PySem.Challenge.rw_dealsformany_k01_line_papers_are_judged) (q := view (OpenLaw.row PySem.Challenge.rw_dealsformany_k01_line_papers_are_judged).prog [0, 45]) (H := Pv.K01.hk) (ob := Pv.K01.ob) (M := 4000) (loose := Pv.K01.loose) (d := HandSHeadRun.topDef (OpenLaw.row PySem.Challenge.rw_dealsformany_k01_line_papers_are_judged).prog 45) (kwd := []) Pv.K01.ob_eq
    Pv.K01.run (by kernel_rfl) (by kernel_rfl) (by kernel_rfl) (by rfl) (by first | assumption | decide +kernel) (by decide +kernel) ⟨rfl, rfl, rfl, rfl, rfl, by decide +kernel⟩ ?hw ?hc
  case hw => w_witness2
  case hc =>
    refine LamX.walk_ofTsE (l := PySem.Challenge.rw_dealsformany_k01_line_papers_are_judged) (n := 63) (k := 38) (x := "script") (CX := fun w => L2.CX (PySem.Challenge.rw_dealsformany_k01_line_papers_are_judged).prog w) rfl (by decide) (by kernel_rfl) ⟨rfl, by decide, by decide⟩ ?F (fun _ _ _ _ _ z => Pv.cx_none z)
    intro w mg fa h Y G hmg0
    obtain ⟨K, KX, c⟩ := Y
    have hmg : mg ("law" : PySem.Str) = some (.ref fa) := by
      have e : (HandSHeadRun.topDef (OpenLaw.row PySem.Challenge.rw_dealsformany_k01_line_papers_are_judged).prog 45).name = ("law" : PySem.Str) := by kernel_rfl
      rw [← e]
      exact hmg0
    exact ⟨K, KX, Pv.law_at (jl := 37) (d := Pv.K01.d37) KX G Pv.K01.chk Pv.K01.bds rfl c.t.d c.more rfl hmg rfl rfl rfl (fun _ _ _ _ _ _ us hl => match us, hl with | [_], _ => rfl) Pv.K01.mathL⟩

